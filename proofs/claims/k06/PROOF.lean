import PyProof.Rows.All
import HandS.ForMost
import HandS.TupAny
import PyProof.StrBlock2
import HandS.Deep
import HandS.IsInst
import HandS.Wide
import HandS.SortInts
import HandS.Style
import HandS.Flow
import HandS.Conv
import HandS.Iter
import PyProof.Draws
import PyProof.EnumMake
import HandS.Exc
import HandS.ExcCtx
import HandS.ExcOwn
import HandS.ExcInit
import HandS.ExcInitHot
import HandS.ExcField
import HandS.ExcIs
import HandS.HotCalls
import HandS.WordsExc
import HandS.Comp
import HandS.Gcd
import HandS.RaiseMore
import KE.SortData
import HandS.TupLe
import HandS.Zip
import HandS.SetFor
import KE.GoesEnum
import HandS.TupSets
import PySem.Challenge.RW_rulingstold_k06_whole_least_books
set_option Elab.async false
set_option linter.all false
set_option maxRecDepth 100000
/-! VL0: values without addresses (D), what it is that a heap bears one (rep), environments by slots (Rel), how a heap goes on (Evo). -/
namespace VL
open PySem PySem.Spec PyProof.Rows L2

inductive D where
  | non | bl (b : Bool) | int (i : Int) | str (l : List Nat) | tup (l : List D) | lst (l : List D)
  | dct (l : List (D × D)) | lck (l : List (D × D)) | obj (c : String) (l : List (String × D)) | scr (l : List Int) | exc (c : String) (l : List (String × D))
  deriving Inhabited

def toKey : D → Option Key
  | .int i => some (.inl i)
  | .str l => some (.inr ⟨l.toArray⟩)
  | _ => none
def toKeys : List D → Option (List Key)
  | [] => some []
  | d :: ds => match toKey d, toKeys ds with
    | some k, some ks => some (k :: ks)
    | _, _ => none
def toKeyT : D → Option (List Key)
  | .tup ds => toKeys ds
  | _ => none

section
variable (K : PySem.W.Frag) (mg : Str → Option Value) (F : Hp)
mutual
def rep : D → V → Prop
  | .non, v => v = .non
  | .bl b, v => v = .bl b
  | .int i, v => v = .int i
  | .str l, v => v = .str ⟨l.toArray⟩
  | .tup ds, v => ∃ p vs, v = .ref p ∧ SqT K F p vs ∧ reps ds vs
  | .lst ds, v => ∃ p vs, v = .ref p ∧ F p = some (.lst vs) ∧ reps ds vs
  | .scr ns, v => ∃ p, v = .ref p ∧ SqL K F p (ns.map V.int)
  | .exc _ _, v => ∃ p, v = .ref p
  | .dct kvs, v => ∃ p xs, v = .ref p ∧ F p = some (.dK xs) ∧ repsK kvs xs
  | .lck kvs, v => ∃ p z xs, v = .ref p ∧ F p = some (.frz z (.dK xs)) ∧ repsK kvs xs
  | .obj c fs, v => ∃ p C dx xs, v = .ref p ∧ mg (Str.ofString c) = some (.ref C) ∧ F p = some (.ins C dx xs) ∧ repsF fs xs
def reps : List D → List V → Prop
  | [], vs => vs = []
  | d :: ds, vs => ∃ v r, vs = v :: r ∧ rep d v ∧ reps ds r
def repsK : List (D × D) → List (Key × V) → Prop
  | [], vs => vs = []
  | p :: ds, vs => ∃ k v r, vs = (k, v) :: r ∧ toKey p.1 = some k ∧ rep p.2 v ∧ repsK ds r
def repsT : List (D × D) → List (List Key × V) → Prop
  | [], vs => vs = []
  | p :: ds, vs => ∃ k v r, vs = (k, v) :: r ∧ toKeyT p.1 = some k ∧ rep p.2 v ∧ repsT ds r
def repsF : List (String × D) → List (Str × V) → Prop
  | [], vs => vs = []
  | p :: ds, vs => ∃ v r, vs = (Str.ofString p.1, v) :: r ∧ rep p.2 v ∧ repsF ds r
end
end

/-- has an object of its own that may be changed -/
def cellD : D → Bool
  | .lst _ => true
  | .dct _ => true
  | .obj _ _ => true
  | _ => false

/-- an object's content is the datum's -/
def cont (K : PySem.W.Frag) (mg : Str → Option Value) (F : Hp) : D → HO → Prop
  | .lst ds, o => ∃ vs, o = .lst vs ∧ reps K mg F ds vs
  | .dct kvs, o => ∃ xs, o = .dK xs ∧ repsK K mg F kvs xs
  | .obj c fs, o => ∃ C dx xs, mg (Str.ofString c) = some (.ref C) ∧ o = .ins C dx xs ∧ repsF K mg F fs xs
  | _, _ => False

section
variable {K : PySem.W.Frag} {mg : Str → Option Value} {F F' H H' : Hp}
theorem rep_cell {d : D} {v : V} (h : cellD d = true) : rep K mg F d v ↔ ∃ p o, v = .ref p ∧ F p = some o ∧ cont K mg F d o := by
  cases d <;> first | (cases h; done) | skip
  · simp only [rep, cont]
    constructor
    · rintro ⟨p, vs, e, h1, h2⟩; exact ⟨p, _, e, h1, vs, rfl, h2⟩
    · rintro ⟨p, o, e, h1, vs, rfl, h2⟩; exact ⟨p, vs, e, h1, h2⟩
  · simp only [rep, cont]
    constructor
    · rintro ⟨p, xs, e, h1, h2⟩; exact ⟨p, _, e, h1, xs, rfl, h2⟩
    · rintro ⟨p, o, e, h1, xs, rfl, h2⟩; exact ⟨p, xs, e, h1, h2⟩
  · simp only [rep, cont]
    constructor
    · rintro ⟨p, C, dx, xs, e, h0, h1, h2⟩; exact ⟨p, _, e, h1, C, dx, xs, h0, rfl, h2⟩
    · rintro ⟨p, o, e, h1, C, dx, xs, h0, rfl, h2⟩; exact ⟨p, C, dx, xs, e, h0, h1, h2⟩

theorem Same.sqT {a : Addr} {xs : List V} (e : Same F F') (h : SqT K F a xs) : SqT K F' a xs := by
  rcases h with (h | ⟨o, h⟩) | h
  · exact .inl (.inl (e _ _ h))
  · exact .inl (.inr ⟨o, e _ _ h⟩)
  · exact .inr h
mutual
theorem rep_mono (s : Same F F') : ∀ {d : D} {v : V}, rep K mg F d v → rep K mg F' d v
  | .non, _, h => by simpa only [rep] using h
  | .bl _, _, h => by simpa only [rep] using h
  | .int _, _, h => by simpa only [rep] using h
  | .str _, _, h => by simpa only [rep] using h
  | .tup ds, _, h => by
    simp only [rep] at h ⊢
    obtain ⟨p, vs, e, h1, h2⟩ := h
    exact ⟨p, vs, e, Same.sqT s h1, reps_mono s h2⟩
  | .lst ds, _, h => by
    simp only [rep] at h ⊢
    obtain ⟨p, vs, e, h1, h2⟩ := h
    exact ⟨p, vs, e, s _ _ h1, reps_mono s h2⟩
  | .exc _ _, _, h => by simpa only [rep] using h
  | .scr ns, _, h => by
    simp only [rep] at h ⊢
    obtain ⟨p, e, h1⟩ := h
    exact ⟨p, e, L2.Same.seq s h1⟩
  | .dct kvs, _, h => by
    simp only [rep] at h ⊢
    obtain ⟨p, xs, e, h1, h2⟩ := h
    exact ⟨p, xs, e, s _ _ h1, repsK_mono s h2⟩
  | .lck kvs, _, h => by
    simp only [rep] at h ⊢
    obtain ⟨p, z, xs, e, h1, h2⟩ := h
    exact ⟨p, z, xs, e, s _ _ h1, repsK_mono s h2⟩
  | .obj c fs, _, h => by
    simp only [rep] at h ⊢
    obtain ⟨p, C, dx, xs, e, h0, h1, h2⟩ := h
    exact ⟨p, C, dx, xs, e, h0, s _ _ h1, repsF_mono s h2⟩
theorem reps_mono (s : Same F F') : ∀ {ds : List D} {vs : List V}, reps K mg F ds vs → reps K mg F' ds vs
  | [], _, h => by simpa only [reps] using h
  | d :: ds, _, h => by
    simp only [reps] at h ⊢
    obtain ⟨v, r, e, h1, h2⟩ := h
    exact ⟨v, r, e, rep_mono s h1, reps_mono s h2⟩
theorem repsK_mono (s : Same F F') : ∀ {ds : List (D × D)} {vs : List (Key × V)}, repsK K mg F ds vs → repsK K mg F' ds vs
  | [], _, h => by simpa only [repsK] using h
  | (k, d) :: ds, _, h => by
    simp only [repsK] at h ⊢
    obtain ⟨k, v, r, e, h0, h1, h2⟩ := h
    exact ⟨k, v, r, e, h0, rep_mono s h1, repsK_mono s h2⟩
theorem repsT_mono (s : Same F F') : ∀ {ds : List (D × D)} {vs : List (List Key × V)}, repsT K mg F ds vs → repsT K mg F' ds vs
  | [], _, h => by simpa only [repsT] using h
  | (k, d) :: ds, _, h => by
    simp only [repsT] at h ⊢
    obtain ⟨k, v, r, e, h0, h1, h2⟩ := h
    exact ⟨k, v, r, e, h0, rep_mono s h1, repsT_mono s h2⟩
theorem repsF_mono (s : Same F F') : ∀ {ds : List (String × D)} {vs : List (Str × V)}, repsF K mg F ds vs → repsF K mg F' ds vs
  | [], _, h => by simpa only [repsF] using h
  | (k, d) :: ds, _, h => by
    simp only [repsF] at h ⊢
    obtain ⟨v, r, e, h1, h2⟩ := h
    exact ⟨v, r, e, rep_mono s h1, repsF_mono s h2⟩
end
theorem cont_mono (s : Same F F') {d : D} {o : HO} (h : cont K mg F d o) : cont K mg F' d o := by
  cases d <;> simp only [cont] at h ⊢ <;> first | exact h.elim | skip
  · obtain ⟨vs, e, h⟩ := h; exact ⟨vs, e, reps_mono s h⟩
  · obtain ⟨xs, e, h⟩ := h; exact ⟨xs, e, repsK_mono s h⟩
  · obtain ⟨C, dx, xs, h0, e, h⟩ := h; exact ⟨C, dx, xs, h0, e, repsF_mono s h⟩
theorem reps_length : ∀ {ds : List D} {vs : List V}, reps K mg F ds vs → vs.length = ds.length
  | [], _, h => by simp only [reps] at h; subst h; rfl
  | d :: ds, _, h => by
    simp only [reps] at h
    obtain ⟨v, r, rfl, h1, h2⟩ := h
    simp only [List.length_cons, reps_length h2]
theorem reps_get : ∀ {ds : List D} {vs : List V} {i : Nat} {d : D}, reps K mg F ds vs → ds[i]? = some d → ∃ v, vs[i]? = some v ∧ rep K mg F d v
  | [], _, _, _, _, e => by simp at e
  | d :: ds, _, 0, _, h, e => by
    simp only [reps] at h
    obtain ⟨v, r, rfl, h1, h2⟩ := h
    simp at e; subst e
    exact ⟨v, rfl, h1⟩
  | d :: ds, _, i + 1, _, h, e => by
    simp only [reps] at h
    obtain ⟨v, r, rfl, h1, h2⟩ := h
    obtain ⟨w, h3, h4⟩ := reps_get h2 (by simpa using e)
    exact ⟨w, by simpa using h3, h4⟩
theorem reps_get' : ∀ {ds : List D} {vs : List V} {i : Nat} {v : V}, reps K mg F ds vs → vs[i]? = some v → ∃ d, ds[i]? = some d ∧ rep K mg F d v := fun {ds vs i v} h e => by
  have hl := reps_length h
  have hi : i < vs.length := by
    rcases Nat.lt_or_ge i vs.length with q | q
    · exact q
    · rw [List.getElem?_eq_none q] at e; cases e
  have hi' : i < ds.length := by omega
  obtain ⟨w, h1, h2⟩ := reps_get h (List.getElem?_eq_getElem hi')
  rw [e] at h1; cases h1
  exact ⟨_, List.getElem?_eq_getElem hi', h2⟩
theorem reps_append : ∀ {ds es : List D} {vs us : List V}, reps K mg F ds vs → reps K mg F es us → reps K mg F (ds ++ es) (vs ++ us)
  | [], _, _, _, h, k => by simp only [reps] at h; subst h; simpa using k
  | d :: ds, _, _, _, h, k => by
    simp only [reps] at h
    obtain ⟨v, r, rfl, h1, h2⟩ := h
    show reps K mg F (d :: (ds ++ _)) (v :: (r ++ _))
    simp only [reps]
    exact ⟨v, _, rfl, h1, reps_append h2 k⟩
theorem reps_one {d : D} {v : V} (h : rep K mg F d v) : reps K mg F [d] [v] := by
  simp only [reps]; exact ⟨v, [], rfl, h, rfl⟩
theorem reps_cons {d : D} {v : V} {ds : List D} {vs : List V} (h : rep K mg F d v) (k : reps K mg F ds vs) : reps K mg F (d :: ds) (v :: vs) := by
  simp only [reps]; exact ⟨v, vs, rfl, h, k⟩
theorem reps_nil : reps K mg F [] [] := by simp only [reps]
theorem reps_drop : ∀ {ds : List D} {vs : List V} (n : Nat), reps K mg F ds vs → reps K mg F (ds.drop n) (vs.drop n)
  | _, _, 0, h => h
  | [], _, n + 1, h => by simp only [reps] at h; subst h; simpa using reps_nil
  | d :: ds, _, n + 1, h => by
    simp only [reps] at h
    obtain ⟨v, r, rfl, h1, h2⟩ := h
    simpa using reps_drop n h2
theorem reps_take : ∀ {ds : List D} {vs : List V} (n : Nat), reps K mg F ds vs → reps K mg F (ds.take n) (vs.take n)
  | _, _, 0, h => by simpa using reps_nil
  | [], _, n + 1, h => by simp only [reps] at h; subst h; simpa using reps_nil
  | d :: ds, _, n + 1, h => by
    simp only [reps] at h
    obtain ⟨v, r, rfl, h1, h2⟩ := h
    simpa using reps_cons h1 (reps_take n h2)
theorem reps_set : ∀ {ds : List D} {vs : List V} {d : D} {v : V} (n : Nat), reps K mg F ds vs → rep K mg F d v → reps K mg F (ds.set n d) (vs.set n v)
  | [], _, _, _, n, h, _ => by simp only [reps] at h; subst h; simpa using reps_nil
  | d :: ds, _, _, _, 0, h, k => by
    simp only [reps] at h
    obtain ⟨v, r, rfl, h1, h2⟩ := h
    simpa using reps_cons k h2
  | d :: ds, _, _, _, n + 1, h, k => by
    simp only [reps] at h
    obtain ⟨v, r, rfl, h1, h2⟩ := h
    simpa using reps_cons h1 (reps_set n h2 k)
theorem reps_reverse : ∀ {ds : List D} {vs : List V}, reps K mg F ds vs → reps K mg F ds.reverse vs.reverse
  | [], _, h => by simp only [reps] at h; subst h; simpa using reps_nil
  | d :: ds, _, h => by
    simp only [reps] at h
    obtain ⟨v, r, rfl, h1, h2⟩ := h
    simp only [List.reverse_cons]
    exact reps_append (reps_reverse h2) (reps_one h1)
theorem reps_ints : ∀ {ns : List Int} {vs : List V}, reps K mg F (ns.map D.int) vs → vs = ns.map V.int
  | [], _, h => by simpa only [reps, List.map_nil] using h
  | n :: ns, _, h => by
    simp only [List.map_cons, reps] at h
    obtain ⟨v, r, rfl, h1, h2⟩ := h
    simp only [rep] at h1
    subst h1
    rw [reps_ints h2, List.map_cons]
theorem ints_reps : ∀ {ns : List Int}, reps K mg F (ns.map D.int) (ns.map V.int)
  | [] => by simpa using reps_nil
  | n :: ns => by
    simp only [List.map_cons]
    exact reps_cons (by simp only [rep]) ints_reps
end

/-! ### environments -/
inductive Md where
  | fz | own | brw | io (p : Addr) | xc (a : Addr) (cls : Value) (d : Option Addr)
def Md.mut : Md → Bool
  | .own => true
  | .io _ => true
  | _ => false
abbrev St := L2.St
abbrev Env := List (Option D)
abbrev Gm := List Md

/-- slot i holds, by a mode that may change it, the object at p -/
def OwnAt (Γ : Gm) (ρ : Env) (σ : St) (i : Nat) (p : Addr) : Prop :=
  ∃ m d, Γ[i]? = some m ∧ m.mut = true ∧ ρ[i]? = some (some d) ∧ cellD d = true ∧ σ[i]? = some (some (.ref p))
/-- slot i holds, to be read only, the object at p -/
def BrwAt (Γ : Gm) (ρ : Env) (σ : St) (i : Nat) (p : Addr) : Prop :=
  ∃ d, Γ[i]? = some .brw ∧ ρ[i]? = some (some d) ∧ cellD d = true ∧ σ[i]? = some (some (.ref p))
/-- a footprint: what may be changed, what is read only (by slots) -/
structure Ft where
  o : Addr → Prop
  b : Nat → Addr → Prop
def Own (Γ : Gm) (ρ : Env) (σ : St) : Ft := ⟨fun p => ∃ i, OwnAt Γ ρ σ i p, BrwAt Γ ρ σ⟩

/-- a value that may be read while the objects in O are changed -/
def RdN (K : PySem.W.Frag) (mg : Str → Option Value) (O : Ft) (H F : Hp) (v : V) (d : D) : Prop :=
  if cellD d = true then ∃ p o, v = .ref p ∧ H p = some o ∧ cont K mg F d o ∧ (F p = some o ∨ (F p = none ∧ ¬ O.o p)) else rep K mg F d v
/-- a cell of one's own -/
def Cell (K : PySem.W.Frag) (mg : Str → Option Value) (H F : Hp) (v : V) (d : D) : Prop :=
  if cellD d = true then ∃ p o, v = .ref p ∧ H p = some o ∧ cont K mg F d o ∧ F p = none else rep K mg F d v
/-- the exception of the class at cls, its dict at d (None: it has none) -/
def XRep (K : PySem.W.Frag) (mg : Str → Option Value) (F : Hp) (c : String) (fs : List (String × D)) (cls : Value) (d : Option Addr) : Prop :=
  ∃ C, mg (Str.ofString c) = some (.ref C) ∧ cls = .ref C ∧ ((fs = [] ∧ d = none) ∨ ∃ dd vs, d = some dd ∧ F dd = some (.xd vs) ∧ repsF K mg F fs vs)
theorem XRep.mono {K : PySem.W.Frag} {mg : Str → Option Value} {F F' : Hp} {c : String} {fs : List (String × D)} {cls : Value} {d : Option Addr} (s : Same F F') (h : XRep K mg F c fs cls d) : XRep K mg F' c fs cls d := by
  obtain ⟨C, h1, h2, h | ⟨dd, vs, h3, h4, h5⟩⟩ := h
  · exact ⟨C, h1, h2, .inl h⟩
  · exact ⟨C, h1, h2, .inr ⟨dd, vs, h3, s _ _ h4, repsF_mono s h5⟩⟩
def SlotOk (K : PySem.W.Frag) (mg : Str → Option Value) (O : Ft) (H F : Hp) : Md → V → D → Prop
  | .fz, v, d => rep K mg F d v
  | .own, v, d => Cell K mg H F v d
  | .io p, v, d => v = .ref p ∧ cellD d = true ∧ Cell K mg H F v d
  | .brw, v, d => RdN K mg O H F v d
  | .xc a cls x, v, d => v = .ref a ∧ ∃ c fs, d = .exc c fs ∧ XRep K mg F c fs cls x
theorem xc_mono {K : PySem.W.Frag} {mg : Str → Option Value} {F F' H H' : Hp} {O O' : Ft} {a : Addr} {cls : Value} {x : Option Addr} {v : V} {d : D} (s : Same F F') (h : SlotOk K mg O H F (.xc a cls x) v d) : SlotOk K mg O' H' F' (.xc a cls x) v d := by
  obtain ⟨h1, c, fs, h2, h3⟩ := h
  exact ⟨h1, c, fs, h2, h3.mono s⟩

structure Rel (K : PySem.W.Frag) (mg : Str → Option Value) (Γ : Gm) (ρ : Env) (σ : St) (H F : Hp) : Prop where
  lr : ρ.length = σ.length
  lg : Γ.length = σ.length
  slot : ∀ (i : Nat) (m : Md) (d : D), Γ[i]? = some m → ρ[i]? = some (some d) → ∃ v, σ[i]? = some (some v) ∧ SlotOk K mg (Own Γ ρ σ) H F m v d
  inj : ∀ i j p, OwnAt Γ ρ σ i p → OwnAt Γ ρ σ j p → i = j
  sub : Same F H

/-- how a heap goes on: O what may be changed, O' afterwards -/
structure Evo (O : Ft) (H F : Hp) (O' : Ft) (H' F' : Hp) : Prop where
  sf : Same F F'
  sh : Same F' H'
  kp : ∀ p o, H p = some o → F p = none → ¬ O.o p → H' p = some o ∧ F' p = none
  dom : ∀ p, H' p = none → H p = none
  ow : ∀ p, O'.o p → O.o p ∨ H p = none
  ob : ∀ j p, O'.b j p → O.b j p

theorem Evo.refl {O : Ft} {H F : Hp} (s : Same F H) : Evo O H F O H F :=
  ⟨Same.refl _, s, fun _ _ h f _ => ⟨h, f⟩, fun _ h => h, fun _ h => .inl h, fun _ _ h => h⟩
theorem Evo.trans {O O1 O2 : Ft} {H F H1 F1 H2 F2 : Hp} (a : Evo O H F O1 H1 F1) (b : Evo O1 H1 F1 O2 H2 F2) : Evo O H F O2 H2 F2 where
  sf := a.sf.trans b.sf
  sh := b.sh
  kp := fun p o h f n => by
    obtain ⟨h1, f1⟩ := a.kp p o h f n
    refine b.kp p o h1 f1 fun q => ?_
    rcases a.ow p q with z | z
    · exact n z
    · rw [h] at z; cases z
  dom := fun p h => a.dom p (b.dom p h)
  ow := fun p q => by
    rcases b.ow p q with z | z
    · exact a.ow p z
    · exact .inr (a.dom p z)
  ob := fun j p h => a.ob j p (b.ob j p h)
/-- fewer may be changed -/
theorem Evo.mono {O O0 O1 O1' : Ft} {H F H1 F1 : Hp} (a : Evo O H F O1 H1 F1) (h : ∀ p, O.o p → O0.o p) (h' : ∀ p, O1'.o p → O0.o p ∨ H p = none) (h2 : ∀ j p, O1'.b j p → O0.b j p) : Evo O0 H F O1' H1 F1 :=
  ⟨a.sf, a.sh, fun p o e f n => a.kp p o e f fun q => n (h p q), a.dom, h', h2⟩

section
variable {K : PySem.W.Frag} {mg : Str → Option Value} {O O' : Ft} {H F H' F' : Hp} {v : V} {d : D}
theorem RdN.evo (r : RdN K mg O H F v d) (e : Evo O H F O' H' F') : RdN K mg O' H' F' v d := by
  unfold RdN at r ⊢
  split
  · rename_i h
    rw [if_pos h] at r
    obtain ⟨p, o, e1, h1, c, q⟩ := r
    rcases q with q | ⟨q1, q2⟩
    · exact ⟨p, o, e1, e.sh _ _ (e.sf _ _ q), cont_mono e.sf c, .inl (e.sf _ _ q)⟩
    · obtain ⟨k1, k2⟩ := e.kp p o h1 q1 q2
      refine ⟨p, o, e1, k1, cont_mono e.sf c, .inr ⟨k2, fun z => ?_⟩⟩
      rcases e.ow p z with w | w
      · exact q2 w
      · rw [h1] at w; cases w
  · rename_i h
    rw [if_neg h] at r
    exact rep_mono e.sf r
theorem rep.rdN (s : Same F H) (r : rep K mg F d v) : RdN K mg O H F v d := by
  unfold RdN
  split
  · rename_i h
    obtain ⟨p, o, e, h1, c⟩ := (rep_cell h).mp r
    exact ⟨p, o, e, s _ _ h1, c, .inl h1⟩
  · exact r
theorem Cell.rdN (r : Cell K mg H F v d) (n : ∀ p, v = .ref p → cellD d = true → ¬ O.o p) : RdN K mg O H F v d := by
  unfold RdN; unfold Cell at r
  split
  · rename_i h
    rw [if_pos h] at r
    obtain ⟨p, o, e, h1, c, f⟩ := r
    exact ⟨p, o, e, h1, c, .inr ⟨f, n p e h⟩⟩
  · rename_i h
    rw [if_neg h] at r
    exact r
/-- what reading asks: the object as it stands -/
def Rdd (K : PySem.W.Frag) (mg : Str → Option Value) (H F : Hp) (v : V) (d : D) : Prop :=
  if cellD d = true then ∃ p o, v = .ref p ∧ H p = some o ∧ cont K mg F d o else rep K mg F d v
theorem RdN.rdd (r : RdN K mg O H F v d) : Rdd K mg H F v d := by
  unfold RdN at r; unfold Rdd
  split
  · rename_i h
    rw [if_pos h] at r
    obtain ⟨p, o, e, h1, c, _⟩ := r
    exact ⟨p, o, e, h1, c⟩
  · rename_i h
    rw [if_neg h] at r
    exact r
theorem Cell.rdd (r : Cell K mg H F v d) : Rdd K mg H F v d := by
  unfold Cell at r; unfold Rdd
  split
  · rename_i h
    rw [if_pos h] at r
    obtain ⟨p, o, e, h1, c, _⟩ := r
    exact ⟨p, o, e, h1, c⟩
  · rename_i h
    rw [if_neg h] at r
    exact r
theorem rep.rdd (s : Same F H) (r : rep K mg F d v) : Rdd K mg H F v d := RdN.rdd (O := ⟨fun _ => False, fun _ _ => False⟩) (r.rdN s)
theorem SlotOk.rdd {m : Md} (s : Same F H) (r : SlotOk K mg O H F m v d) : Rdd K mg H F v d := by
  cases m with
  | fz => exact rep.rdd s r
  | own => exact Cell.rdd r
  | brw => exact RdN.rdd r
  | io p => exact Cell.rdd r.2.2
  | xc a c x =>
    obtain ⟨h1, c, fs, h2, h3⟩ := r
    subst h2
    unfold Rdd
    rw [if_neg (show ¬ cellD (.exc c fs) = true from fun h => nomatch h)]
    simp only [rep]
    exact ⟨_, h1⟩
end
end VL

set_option Elab.async false
set_option linter.all false
set_option maxRecDepth 100000
/-! VL1: evaluators, judgements, the base. -/
namespace VL
open PySem PySem.Spec PyProof.Rows L2

structure Exn where
  cls : String
  fs : List (String × D)
inductive Res (α : Type) where
  | ok (a : α) | exn (x : Exn) | bad
def Res.bind {α β : Type} : Res α → (α → Res β) → Res β
  | .ok a, f => f a
  | .exn x, _ => .exn x
  | .bad, _ => .bad
@[simp] theorem Res.bind_ok {α β : Type} (a : α) (f : α → Res β) : Res.bind (.ok a) f = f a := rfl
@[simp] theorem Res.bind_bad {α β : Type} (f : α → Res β) : Res.bind .bad f = .bad := rfl
@[simp] theorem Res.bind_exn {α β : Type} (x : Exn) (f : α → Res β) : Res.bind (.exn x) f = .exn x := rfl
def Res.sat {α : Type} (r : Res α) (P : α → Prop) (E : Exn → Prop) : Prop := match r with
  | .ok a => P a
  | .exn x => E x
  | .bad => False
theorem Res.sat_bind {α β : Type} {r : Res α} {f : α → Res β} {P : β → Prop} {E : Exn → Prop} : (r.bind f).sat P E ↔ r.sat (fun a => (f a).sat P E) E := by
  cases r <;> exact Iff.rfl
theorem Res.sat_imp {α : Type} {r : Res α} {P P' : α → Prop} {E E' : Exn → Prop} (h : r.sat P E) (hP : ∀ a, r = .ok a → P a → P' a) (hE : ∀ x, E x → E' x) : r.sat P' E' := by
  cases r with
  | ok a => exact hP a rfl h
  | exn x => exact hE x h
  | bad => exact h
theorem Res.sat_ok {α : Type} {a : α} {P : α → Prop} {E : Exn → Prop} : (Res.ok a).sat P E ↔ P a := Iff.rfl
abbrev Ev := Env → Res (D × Env)
abbrev Et := Env → Res (Bool × Env)
inductive Fl where
  | next (ρ : Env) | ret (d : D) (ρ : Env) | brk (ρ : Env) | cont (ρ : Env)
abbrev Es := Env → Res Fl
/-- a wish about exceptions -/
abbrev WE := Exn → St → Hp → Hp → Prop

def gv (ρ : Env) (i : Nat) : Res D := match ρ[i]? with
  | some (some d) => .ok d
  | _ => .bad

/-- a new or old value: fz: of the frozen part; own: an object of its own, just made -/
def ValOk (K : PySem.W.Frag) (mg : Str → Option Value) (m : Md) (O' : Ft) (H H' F' : Hp) (v : V) (d : D) : Prop :=
  match m with
  | .own => Cell K mg H' F' v d ∧ (cellD d = true → ∀ p, v = .ref p → H p = none ∧ ¬ O'.o p)
  | _ => rep K mg F' d v

/-- what an exception must meet, from here on -/
def exW (W : WE) (Γ : Gm) (ρ : Env) (σ : St) (H F : Hp) : Exn → Prop := fun x => ∀ H' F' O', Evo (Own Γ ρ σ) H F O' H' F' → W x σ H' F'
theorem exW.evo {W : WE} {Γ Γ' : Gm} {ρ ρ' : Env} {σ : St} {H F H' F' : Hp} {x : Exn} (h : exW W Γ ρ σ H F x) (e : Evo (Own Γ ρ σ) H F (Own Γ' ρ' σ) H' F') : exW W Γ' ρ' σ H' F' x :=
  fun H2 F2 O2 e2 => h H2 F2 O2 (e.trans e2)
section
variable (X : Cx) (Γ Γ' : Gm) (W : WE)
def trE (m : Md) (ev : Ev) : TE := fun σ H Q => ∃ ρ F, Rel X.K X.mg Γ ρ σ H F ∧ (ev ρ).sat
  (fun r => ∀ v H' F', Evo (Own Γ ρ σ) H F (Own Γ' r.2 σ) H' F' → Rel X.K X.mg Γ' r.2 σ H' F' → ValOk X.K X.mg m (Own Γ' r.2 σ) H H' F' v r.1 → Q v H') (exW W Γ ρ σ H F)
/-- an expression by its evaluator -/
abbrev VE (e : Expr) (m : Md) (ev : Ev) : Prop := PE X e (trE X Γ Γ' W m ev)
def trT (ev : Et) : TT := fun σ H Q => ∃ ρ F, Rel X.K X.mg Γ ρ σ H F ∧ (ev ρ).sat
  (fun r => ∀ H' F', Evo (Own Γ ρ σ) H F (Own Γ' r.2 σ) H' F' → Rel X.K X.mg Γ' r.2 σ H' F' → Q r.1 H') (exW W Γ ρ σ H F)
abbrev VT (e : Expr) (ev : Et) : Prop := PT X e (trT X Γ Γ' W ev)
end

inductive Opd where
  | slot (i : Nat) | ex (f : Ev)
def Opd.run : Opd → Env → Res (Option D × Env)
  | .slot i, ρ => (gv ρ i).bind fun _ => .ok (none, ρ)
  | .ex f, ρ => (f ρ).bind fun r => .ok (some r.1, r.2)
def Opd.fin : Opd → Option D → Env → Res D
  | .slot i, _, ρ => gv ρ i
  | .ex _, some d, _ => .ok d
  | .ex _, none, _ => .bad
def BOk (K : PySem.W.Frag) (mg : Str → Option Value) (o : Opd) (od : Option D) (O : Ft) (σ : St) (H F : Hp) (v : V) : Prop :=
  match o, od with
  | .slot i, _ => σ[i]? = some (some v)
  | .ex _, some d => RdN K mg O H F v d
  | .ex _, none => False
section
variable (X : Cx) (Γ Γ' : Gm) (W : WE)
def trB (o : Opd) : TE := fun σ H Q => ∃ ρ F, Rel X.K X.mg Γ ρ σ H F ∧ (o.run ρ).sat
  (fun r => ∀ v H' F', Evo (Own Γ ρ σ) H F (Own Γ' r.2 σ) H' F' → Rel X.K X.mg Γ' r.2 σ H' F' → BOk X.K X.mg o r.1 (Own Γ' r.2 σ) σ H' F' v → Q v H') (exW W Γ ρ σ H F)
abbrev VB (e : Expr) (o : Opd) : Prop := PE X e (trB X Γ Γ' W o)
end

section
variable {K : PySem.W.Frag} {mg : Str → Option Value} {O O' : Ft} {H F H' F' H2 F2 : Hp} {v : V} {d : D} {Γ Γ' Γ2 : Gm} {ρ ρ' ρ2 : Env} {σ : St} {o : Opd} {od : Option D}
theorem gv_ok {i : Nat} (h : gv ρ i = .ok d) : ρ[i]? = some (some d) := by
  unfold gv at h
  split at h
  · rename_i e; injection h with h; subst h; exact e
  · cases h
theorem gv_cases (ρ : Env) (i : Nat) : (∃ d, gv ρ i = .ok d ∧ ρ[i]? = some (some d)) ∨ gv ρ i = .bad := by
  unfold gv
  split
  · rename_i d e; exact .inl ⟨d, rfl, e⟩
  · exact .inr rfl
theorem Rel.gm (r : Rel K mg Γ ρ σ H F) {i : Nat} (h : ρ[i]? = some (some d)) : ∃ m, Γ[i]? = some m := by
  have h1 : i < ρ.length := by
    rcases Nat.lt_or_ge i ρ.length with q | q
    · exact q
    · rw [List.getElem?_eq_none q] at h; cases h
  have h2 : i < Γ.length := by rw [r.lg, ← r.lr]; exact h1
  exact ⟨_, List.getElem?_eq_getElem h2⟩
theorem Rel.rdd (r : Rel K mg Γ ρ σ H F) {i : Nat} (h : ρ[i]? = some (some d)) : ∃ v, σ[i]? = some (some v) ∧ Rdd K mg H F v d := by
  obtain ⟨m, hm⟩ := r.gm h
  obtain ⟨v, h1, h2⟩ := r.slot i m d hm h
  exact ⟨v, h1, h2.rdd r.sub⟩
theorem BOk.fin (r : Rel K mg Γ2 ρ2 σ H2 F2) (b : BOk K mg o od O σ H F v) (e : Evo O H F O' H2 F2) (h : o.fin od ρ2 = .ok d) : Rdd K mg H2 F2 v d := by
  cases o with
  | slot i =>
    obtain ⟨w, h1, h2⟩ := r.rdd (gv_ok h)
    have b' : σ[i]? = some (some v) := b
    rw [b'] at h1; cases h1
    exact h2
  | ex f =>
    cases od with
    | none => exact False.elim b
    | some d' =>
      have h' : Res.ok d' = Res.ok d := h
      cases h'
      exact (RdN.evo b e).rdd
theorem ValOk.rdN (r : Rel K mg Γ ρ σ H' F') {m : Md} (h : ValOk K mg m (Own Γ ρ σ) H H' F' v d) : RdN K mg (Own Γ ρ σ) H' F' v d := by
  cases m <;> first | exact rep.rdN r.sub h | exact Cell.rdN h.1 fun p e c => (h.2 c p e).2
end

/-- only more is made -/
structure Grow (H F H' F' : Hp) : Prop where
  sf : Same F F'
  sh : Same F' H'
  kp : ∀ p o, H p = some o → H' p = some o
  fr : ∀ p o, H p = some o → F p = none → F' p = none
section
variable {K : PySem.W.Frag} {mg : Str → Option Value} {O O' : Ft} {H F H' F' H2 F2 : Hp} {v : V} {d : D} {Γ Γ' Γ2 : Gm} {ρ ρ' ρ2 : Env} {σ : St} {o : HO} {p : Addr}
theorem Grow.refl (s : Same F H) : Grow H F H F := ⟨Same.refl _, s, fun _ _ h => h, fun _ _ _ h => h⟩
theorem Grow.trans (a : Grow H F H' F') (b : Grow H' F' H2 F2) : Grow H F H2 F2 :=
  ⟨a.sf.trans b.sf, b.sh, fun p o h => b.kp p o (a.kp p o h), fun p o h f => b.fr p o (a.kp p o h) (a.fr p o h f)⟩
theorem Grow.evo (g : Grow H F H' F') : Evo O H F O H' F' :=
  ⟨g.sf, g.sh, fun p o h f _ => ⟨g.kp p o h, g.fr p o h f⟩, fun p h => (by
    cases e : H p with
    | none => rfl
    | some o => rw [g.kp p o e] at h; cases h), fun _ h => .inl h, fun _ _ h => h⟩
theorem Same.updN {o : HO} (h : H p = none) : Same H (upd H p o) := fun b x e => by
  rw [upd_ne (ne_of_none e h)]; exact e
/-- a new frozen object -/
theorem Grow.newF (s : Same F H) (h : H p = none) : Grow H F (upd H p o) (upd F p o) := by
  have hf : F p = none := L2.Same.free s h
  refine ⟨Same.updN hf, fun b x e => ?_, fun b x e => Same.updN h b x e, fun b x e f => ?_⟩
  · by_cases hb : b = p
    · subst hb; rw [upd_same] at e ⊢; exact e
    · rw [upd_ne hb] at e ⊢; exact s _ _ e
  · rw [upd_ne (ne_of_none e h)]; exact f
/-- a new object of one's own -/
theorem Grow.newO (s : Same F H) (h : H p = none) : Grow H F (upd H p o) F :=
  ⟨Same.refl _, s.trans (Same.updN h), fun b x e => Same.updN h b x e, fun _ _ _ f => f⟩
theorem Rdd.grow (r : Rdd K mg H F v d) (g : Grow H F H' F') : Rdd K mg H' F' v d := by
  unfold Rdd at r ⊢
  split
  · rename_i h
    rw [if_pos h] at r
    obtain ⟨p, o, e, h1, c⟩ := r
    exact ⟨p, o, e, g.kp _ _ h1, cont_mono g.sf c⟩
  · rename_i h
    rw [if_neg h] at r
    exact rep_mono g.sf r
theorem Cell.grow (r : Cell K mg H F v d) (g : Grow H F H' F') : Cell K mg H' F' v d := by
  unfold Cell at r ⊢
  split
  · rename_i h
    rw [if_pos h] at r
    obtain ⟨p, o, e, h1, c, f⟩ := r
    exact ⟨p, o, e, g.kp _ _ h1, cont_mono g.sf c, g.fr _ _ h1 f⟩
  · rename_i h
    rw [if_neg h] at r
    exact rep_mono g.sf r
theorem SlotOk.grow {m : Md} (r : SlotOk K mg O H F m v d) (g : Grow H F H' F') : SlotOk K mg O H' F' m v d := by
  cases m with
  | fz => exact rep_mono g.sf r
  | own => exact Cell.grow r g
  | brw => exact RdN.evo r g.evo
  | io p => exact ⟨r.1, r.2.1, Cell.grow r.2.2 g⟩
  | xc a c x => exact xc_mono g.sf r
theorem Rel.grow (r : Rel K mg Γ ρ σ H F) (g : Grow H F H' F') : Rel K mg Γ ρ σ H' F' :=
  ⟨r.lr, r.lg, fun i m d h1 h2 => by
    obtain ⟨v, h3, h4⟩ := r.slot i m d h1 h2
    exact ⟨v, h3, h4.grow g⟩, r.inj, g.sh⟩
/-- what a rule hands back: only new things -/
def NewOk (K : PySem.W.Frag) (mg : Str → Option Value) (m : Md) (H H' F' : Hp) (v : V) (d : D) : Prop :=
  match m with
  | .own => Cell K mg H' F' v d ∧ (cellD d = true → ∀ p, v = .ref p → H p = none)
  | _ => rep K mg F' d v
theorem Own.there (r : Rel K mg Γ ρ σ H F) (h : (Own Γ ρ σ).o p) : ∃ o, H p = some o ∧ F p = none := by
  obtain ⟨i, m, d, h1, h2, h3, h4, h5⟩ := h
  obtain ⟨v, h6, h7⟩ := r.slot i m d h1 h3
  rw [h5] at h6; cases h6
  have c : Cell K mg H F (.ref p) d := by
    cases m with
    | own => exact h7
    | io q => exact h7.2.2
    | fz => cases h2
    | brw => cases h2
    | xc a c x => cases h2
  unfold Cell at c
  rw [if_pos h4] at c
  obtain ⟨q, o, e, k1, _, k3⟩ := c
  cases e
  exact ⟨o, k1, k3⟩
theorem NewOk.val (r : Rel K mg Γ ρ σ H F) {m : Md} (h : NewOk K mg m H H' F' v d) : ValOk K mg m (Own Γ ρ σ) H H' F' v d := by
  cases m <;> first | exact h | skip
  refine ⟨h.1, fun c p e => ⟨h.2 c p e, fun z => ?_⟩⟩
  obtain ⟨o, k, _⟩ := Own.there r z
  rw [h.2 c p e] at k; cases k
end

/-! ### freezing -/
section
variable {K : PySem.W.Frag} {mg : Str → Option Value} {O O' O1 : Ft} {H F H' F' H1 F1 : Hp} {v : V} {d : D} {Γ : Gm} {ρ : Env} {σ : St} {o : HO} {p : Addr}
theorem Same.frz (s : Same F H) (h : H p = some o) : Same (upd F p o) H := fun b x e => by
  by_cases hb : b = p
  · subst hb; rw [upd_same] at e; cases e; exact h
  · rw [upd_ne hb] at e; exact s _ _ e
theorem Same.updF (h : F p = none) : Same F (upd F p o) := fun b x e => by rw [upd_ne (ne_of_none e h)]; exact e
theorem RdN.frz (r : RdN K mg O H F v d) (h : H p = some o) (f : F p = none) (i : ∀ q, O'.o q → O.o q) : RdN K mg O' H (upd F p o) v d := by
  unfold RdN at r ⊢
  split
  · rename_i hc
    rw [if_pos hc] at r
    obtain ⟨q, u, e, h1, c, k⟩ := r
    refine ⟨q, u, e, h1, cont_mono (Same.updF f) c, ?_⟩
    by_cases hq : q = p
    · subst hq; rw [h] at h1; cases h1; exact .inl upd_same
    · rw [upd_ne hq]
      rcases k with k | ⟨k1, k2⟩
      · exact .inl k
      · exact .inr ⟨k1, fun z => k2 (i _ z)⟩
  · rename_i hc
    rw [if_neg hc] at r
    exact rep_mono (Same.updF f) r
theorem Cell.frz (r : Cell K mg H F v d) (f : F p = none) (n : cellD d = true → v ≠ .ref p) : Cell K mg H (upd F p o) v d := by
  unfold Cell at r ⊢
  split
  · rename_i hc
    rw [if_pos hc] at r
    obtain ⟨q, u, e, h1, c, k⟩ := r
    refine ⟨q, u, e, h1, cont_mono (Same.updF f) c, ?_⟩
    rw [upd_ne (fun z => n hc (by rw [e, z]))]
    exact k
  · rename_i hc
    rw [if_neg hc] at r
    exact rep_mono (Same.updF f) r
/-- an object that no slot owns is frozen -/
theorem Rel.frz (r : Rel K mg Γ ρ σ H F) (h : H p = some o) (f : F p = none) (n : ¬ (Own Γ ρ σ).o p) : Rel K mg Γ ρ σ H (upd F p o) :=
  ⟨r.lr, r.lg, fun i m d h1 h2 => by
    obtain ⟨v, h3, h4⟩ := r.slot i m d h1 h2
    refine ⟨v, h3, ?_⟩
    cases m with
    | fz => exact rep_mono (Same.updF f) h4
    | own => exact Cell.frz h4 f fun hc e => n ⟨i, _, d, h1, rfl, h2, hc, by rw [h3, e]⟩
    | brw => exact RdN.frz h4 h f fun _ z => z
    | xc a c x => exact xc_mono (Same.updF f) h4
    | io q => exact ⟨h4.1, h4.2.1, Cell.frz h4.2.2 f fun hc e => n ⟨i, _, d, h1, rfl, h2, hc, by rw [h3, e]⟩⟩, r.inj, Same.frz r.sub h⟩
theorem Evo.frz (e : Evo O H F O' H1 F1) (h : H1 p = some o) (f : F1 p = none) (n : ∀ u, H p = some u → F p = none → O.o p) : Evo O H F O' H1 (upd F1 p o) :=
  ⟨e.sf.trans (Same.updF f), Same.frz e.sh h, fun q u k1 k2 k3 => by
    obtain ⟨j1, j2⟩ := e.kp q u k1 k2 k3
    refine ⟨j1, ?_⟩
    rw [upd_ne (fun z => k3 (by subst z; exact n u k1 k2))]
    exact j2, e.dom, e.ow, e.ob⟩
theorem OwnAt.of_set {i j : Nat} {m : Md} (hm : m.mut = false) (h : OwnAt (Γ.set i m) ρ σ j p) : OwnAt Γ ρ σ j p ∧ j ≠ i := by
  obtain ⟨m', d, h1, h2, h3⟩ := h
  by_cases e : i = j
  · subst e
    by_cases hl : i < Γ.length
    · rw [List.getElem?_set_self hl] at h1; cases h1; rw [hm] at h2; cases h2
    · rw [List.getElem?_eq_none (by simpa using hl)] at h1; cases h1
  · rw [List.getElem?_set_ne e] at h1
    exact ⟨⟨m', d, h1, h2, h3⟩, fun z => e z.symm⟩
theorem BrwAt.of_set {i j : Nat} {m : Md} (hm : m ≠ .brw) (h : BrwAt (Γ.set i m) ρ σ j p) : BrwAt Γ ρ σ j p := by
  obtain ⟨d, h1, h2⟩ := h
  by_cases e : i = j
  · subst e
    by_cases hl : i < Γ.length
    · rw [List.getElem?_set_self hl] at h1; cases h1; exact absurd rfl hm
    · rw [List.getElem?_eq_none (by simpa using hl)] at h1; cases h1
  · rw [List.getElem?_set_ne e] at h1
    exact ⟨d, h1, h2⟩
theorem Own.of_set {i : Nat} {m : Md} (hm : m.mut = false) (h : (Own (Γ.set i m) ρ σ).o p) : (Own Γ ρ σ).o p := let ⟨j, h⟩ := h; ⟨j, (h.of_set hm).1⟩
theorem set_get {α : Type} {l : List α} {i j : Nat} {x y : α} (h : (l.set i x)[j]? = some y) : (i = j ∧ y = x ∧ j < l.length) ∨ (i ≠ j ∧ l[j]? = some y) := by
  by_cases e : i = j
  · subst e
    by_cases hl : i < l.length
    · rw [List.getElem?_set_self hl] at h; cases h; exact .inl ⟨rfl, rfl, hl⟩
    · rw [List.getElem?_eq_none (by simpa using hl)] at h; cases h
  · rw [List.getElem?_set_ne e] at h; exact .inr ⟨e, h⟩
/-- a slot's object is frozen -/
theorem Rel.frzAt {i : Nat} (r : Rel K mg Γ ρ σ H F) (hm : Γ[i]? = some .own) (hd : ρ[i]? = some (some d)) :
    ∃ v F', σ[i]? = some (some v) ∧ rep K mg F' d v ∧ Rel K mg (Γ.set i .fz) ρ σ H F' ∧ Evo (Own Γ ρ σ) H F (Own (Γ.set i .fz) ρ σ) H F' := by
  obtain ⟨v, h1, h2⟩ := r.slot i _ d hm hd
  have h2 : Cell K mg H F v d := h2
  have ev0 : Evo (Own Γ ρ σ) H F (Own (Γ.set i .fz) ρ σ) H F := (Evo.refl r.sub).mono (fun _ z => z) (fun p z => .inl (Own.of_set rfl z)) fun _ _ z => z.of_set (by intro e; cases e)
  by_cases hc : cellD d = true
  · have h2' := h2
    unfold Cell at h2'
    rw [if_pos hc] at h2'
    obtain ⟨p, o, e, k1, k2, k3⟩ := h2'
    subst e
    have own : OwnAt Γ ρ σ i p := ⟨_, d, hm, rfl, hd, hc, h1⟩
    have fi : rep K mg (upd F p o) d (.ref p) := (rep_cell hc).mpr ⟨p, o, rfl, upd_same, cont_mono (Same.updF k3) k2⟩
    refine ⟨_, upd F p o, h1, fi, ⟨r.lr, by rw [List.length_set]; exact r.lg, fun j m d' g1 g2 => ?_, fun a b q g1 g2 => r.inj a b q (g1.of_set rfl).1 (g2.of_set rfl).1, Same.frz r.sub k1⟩, ev0.frz k1 k3 fun u _ _ => ⟨i, own⟩⟩
    rcases set_get g1 with ⟨e, rfl, _⟩ | ⟨e, g1⟩
    · subst e
      rw [hd] at g2; cases g2
      exact ⟨_, h1, fi⟩
    · obtain ⟨w, w1, w2⟩ := r.slot j m d' g1 g2
      refine ⟨w, w1, ?_⟩
      cases m with
      | fz => exact rep_mono (Same.updF k3) w2
      | own => exact Cell.frz w2 k3 fun hc' z => e (r.inj i j p own ⟨_, d', g1, rfl, g2, hc', by rw [w1, z]⟩)
      | brw => exact RdN.frz w2 k1 k3 fun _ z => Own.of_set rfl z
      | xc a c x => exact xc_mono (Same.updF k3) w2
      | io q => exact ⟨w2.1, w2.2.1, Cell.frz w2.2.2 k3 fun hc' z => e (r.inj i j p own ⟨_, d', g1, rfl, g2, hc', by rw [w1, z]⟩)⟩
  · have fi : rep K mg F d v := by unfold Cell at h2; rw [if_neg hc] at h2; exact h2
    refine ⟨v, F, h1, fi, ⟨r.lr, by rw [List.length_set]; exact r.lg, fun j m d' g1 g2 => ?_, fun a b q g1 g2 => r.inj a b q (g1.of_set rfl).1 (g2.of_set rfl).1, r.sub⟩, ev0⟩
    rcases set_get g1 with ⟨e, rfl, _⟩ | ⟨e, g1⟩
    · subst e
      rw [hd] at g2; cases g2
      exact ⟨_, h1, fi⟩
    · obtain ⟨w, w1, w2⟩ := r.slot j m d' g1 g2
      refine ⟨w, w1, ?_⟩
      cases m with
      | brw =>
        have w2 : RdN K mg (Own Γ ρ σ) H F w d' := w2
        exact w2.evo ev0
      | _ => exact w2
end

section
variable {X : Cx} {Γ Γ' Γ1 Γ2 Γ3 : Gm} {W : WE} {e a b c : Expr} {pos : Pos} {m : Md} {ev : Ev} {et : Et}
theorem peImp {t t' : TE} (h : PE X e t) (i : ∀ σ H Q, t' σ H Q → t σ H Q) : PE X e t' := ⟨fun pins s σ H Q I q => h.run pins s σ H Q I (i σ H Q q)⟩
theorem ptImp {t t' : TT} (h : PT X e t) (i : ∀ σ H Q, t' σ H Q → t σ H Q) : PT X e t' := ⟨fun pins s σ H Q I q => h.run pins s σ H Q I (i σ H Q q)⟩

/-! ### constants and names -/
def eC (d : D) : Ev := fun ρ => .ok (d, ρ)
def eVar (i : Nat) : Ev := fun ρ => (gv ρ i).bind fun d => .ok (d, ρ)
def eVarB (i : Nat) : Ev := fun ρ => (gv ρ i).bind fun d => if cellD d = true then .bad else .ok (d, ρ)
theorem ve_const {v : V} {d : D} (h : PE X e (tC v)) (hd : ∀ F, rep X.K X.mg F d v) : VE X Γ Γ W e .fz (eC d) :=
  peImp h fun σ H Q ⟨ρ, F, r, q⟩ => q v H F (Evo.refl r.sub) r (hd F)
theorem ve_int {i j pos} : VE X Γ Γ W (.Constant (.int i) j pos) .fz (eC (.int i)) := ve_const pe_int fun _ => rfl
theorem ve_bl {b j pos} : VE X Γ Γ W (.Constant (.bool b) j pos) .fz (eC (.bl b)) := ve_const pe_bl fun _ => rfl
theorem ve_non {j pos} : VE X Γ Γ W (.Constant .none j pos) .fz (eC .non) := ve_const pe_non fun _ => rfl
theorem ve_str {x : Str} {l : List Nat} {j pos} (h : x = ⟨l.toArray⟩) : VE X Γ Γ W (.Constant (.str x) j pos) .fz (eC (.str l)) := ve_const pe_str fun _ => by
  subst h; simp only [rep]
theorem gv_sat {ρ : Env} {i : Nat} {P : D → Prop} {E : Exn → Prop} (h : (gv ρ i).sat P E) : ∃ d, ρ[i]? = some (some d) ∧ P d := by
  rcases gv_cases ρ i with ⟨d, e1, e2⟩ | e1
  · rw [e1] at h; exact ⟨d, e2, h⟩
  · rw [e1] at h; exact h.elim
theorem ve_fz {i : Nat} (h : PE X e (tVar i)) (hm : Γ[i]? = some .fz) : VE X Γ Γ W e .fz (eVar i) :=
  peImp h fun σ H Q ⟨ρ, F, r, q⟩ => by
    obtain ⟨d, e2, q⟩ := gv_sat (Res.sat_bind.mp q)
    obtain ⟨v, h1, h2⟩ := r.slot i _ d hm e2
    exact ⟨v, h1, q v H F (Evo.refl r.sub) r h2⟩
theorem ve_own {i : Nat} (h : PE X e (tVar i)) (hm : Γ[i]? = some .own) : VE X Γ (Γ.set i .fz) W e .fz (eVar i) :=
  peImp h fun σ H Q ⟨ρ, F, r, q⟩ => by
    obtain ⟨d, e2, q⟩ := gv_sat (Res.sat_bind.mp q)
    obtain ⟨v, F', h1, h2, h3, h4⟩ := r.frzAt hm e2
    exact ⟨v, h1, q v H F' h4 h3 h2⟩
theorem ve_brw {i : Nat} (h : PE X e (tVar i)) (hm : Γ[i]? = some .brw) : VE X Γ Γ W e .fz (eVarB i) :=
  peImp h fun σ H Q ⟨ρ, F, r, q⟩ => by
    obtain ⟨d, e2, q⟩ := gv_sat (Res.sat_bind.mp q)
    obtain ⟨v, h1, h2⟩ := r.slot i _ d hm e2
    by_cases hc : cellD d = true
    · rw [if_pos hc] at q; exact q.elim
    · rw [if_neg hc] at q
      have h2 : RdN X.K X.mg (Own Γ ρ σ) H F v d := h2
      unfold RdN at h2
      rw [if_neg hc] at h2
      exact ⟨v, h1, q v H F (Evo.refl r.sub) r h2⟩
/-- a new object is not changed any more -/
theorem ve_coe (h : VE X Γ Γ' W e .own ev) : VE X Γ Γ' W e .fz ev :=
  peImp h fun σ H Q ⟨ρ, F, r, q⟩ => ⟨ρ, F, r, Res.sat_imp q (fun z _ q v H' F' e1 r1 ⟨c, n⟩ => by
      unfold Cell at c
      split at c
      · rename_i hc
        obtain ⟨p, o, e2, k1, k2, k3⟩ := c
        subst e2
        obtain ⟨n1, n2⟩ := n hc p rfl
        exact q _ H' (upd F' p o) (e1.frz k1 k3 fun u z _ => by rw [n1] at z; cases z) (r1.frz k1 k3 n2) ((rep_cell hc).mpr ⟨p, o, rfl, upd_same, cont_mono (Same.updF k3) k2⟩)
      · exact q v H' F' e1 r1 c) fun _ h => h⟩
/-- a value that has no object of its own may be called one's own -/
def eUp (ev : Ev) : Ev := fun ρ => (ev ρ).bind fun r => if cellD r.1 = true then .bad else .ok r
theorem ve_up (h : VE X Γ Γ' W e .fz ev) : VE X Γ Γ' W e .own (eUp ev) :=
  peImp h fun σ H Q ⟨ρ, F, r, q⟩ => ⟨ρ, F, r, Res.sat_imp (Res.sat_bind.mp q) (fun z _ q v H' F' e1 r1 c => by
      by_cases hc : cellD z.1 = true
      · rw [if_pos hc] at q; exact q.elim
      · rw [if_neg hc] at q
        exact q v H' F' e1 r1 ⟨by unfold Cell; rw [if_neg hc]; exact c, fun z => absurd z hc⟩) fun _ h => h⟩
/-! ### operands -/
theorem vb_slot {i : Nat} (h : PE X e (tVar i)) : VB X Γ Γ W e (.slot i) :=
  peImp h fun σ H Q ⟨ρ, F, r, q⟩ => by
    obtain ⟨d, e2, q⟩ := gv_sat (Res.sat_bind.mp q)
    obtain ⟨v, h1, h2⟩ := r.rdd e2
    exact ⟨v, h1, q v H F (Evo.refl r.sub) r h1⟩
theorem vb_ex (h : VE X Γ Γ' W e m ev) : VB X Γ Γ' W e (.ex ev) :=
  peImp h fun σ H Q ⟨ρ, F, r, q⟩ => ⟨ρ, F, r, Res.sat_imp (Res.sat_bind.mp q) (fun z _ q v H' F' e1 r1 vo => q v H' F' e1 r1 (vo.rdN r1)) fun _ h => h⟩
/-- two operands, then what is done with their values -/
theorem bor2 {oa ob : Opd} {α : Type} {k : D → D → Env → Res α} {P : α → Prop} {R : V → V → Hp → Prop} {σ : St} {H F : Hp} {ρ : Env} (r : Rel X.K X.mg Γ ρ σ H F)
    (q : ((oa.run ρ).bind fun p => (ob.run p.2).bind fun s => (oa.fin p.1 s.2).bind fun dx => (ob.fin s.1 s.2).bind fun dy => k dx dy s.2).sat P (exW W Γ ρ σ H F))
    (hk : ∀ dx dy ρ2 x y H2 F2, (k dx dy ρ2).sat P (exW W Γ ρ σ H F) → Evo (Own Γ ρ σ) H F (Own Γ2 ρ2 σ) H2 F2 → Rel X.K X.mg Γ2 ρ2 σ H2 F2 → Rdd X.K X.mg H2 F2 x dx → Rdd X.K X.mg H2 F2 y dy → R x y H2) :
    trB X Γ Γ1 W oa σ H fun x H1 => trB X Γ1 Γ2 W ob σ H1 fun y H2 => R x y H2 :=
  ⟨ρ, F, r, Res.sat_imp (Res.sat_bind.mp q) (fun p _ q v H1 F1 e1 r1 b1 => ⟨p.2, F1, r1, Res.sat_imp (Res.sat_bind.mp q) (fun s _ q w H2 F2 e2 r2 b2 =>
    by
      have q := Res.sat_bind.mp q
      cases h1 : oa.fin p.1 s.2 with
      | bad => rw [h1] at q; exact q.elim
      | exn x =>
        exfalso
        cases oa with
        | slot i =>
          rcases gv_cases s.2 i with ⟨d, e, _⟩ | e
          · have h1 : gv s.2 i = .exn x := h1
            rw [e] at h1; cases h1
          · have h1 : gv s.2 i = .exn x := h1
            rw [e] at h1; cases h1
        | ex f => cases hp : p.1 <;> rw [hp] at h1 <;> cases h1
      | ok dx =>
        rw [h1] at q
        have q := Res.sat_bind.mp q
        cases h2 : ob.fin s.1 s.2 with
        | bad => rw [h2] at q; exact q.elim
        | exn x =>
          exfalso
          cases ob with
          | slot i =>
            rcases gv_cases s.2 i with ⟨d, e, _⟩ | e
            · have h2 : gv s.2 i = .exn x := h2
              rw [e] at h2; cases h2
            · have h2 : gv s.2 i = .exn x := h2
              rw [e] at h2; cases h2
          | ex f => cases hp : s.1 <;> rw [hp] at h2 <;> cases h2
        | ok dy =>
          rw [h2] at q
          exact hk dx dy s.2 v w H2 F2 q (e1.trans e2) r2 (b1.fin r2 e2 h1) (b2.fin r2 (Evo.refl r2.sub) h2)) fun _ h => h.evo e1⟩) fun _ h => h⟩
end
end VL

set_option Elab.async false
set_option linter.all false
set_option maxRecDepth 100000
/-! VL2: operators and built-in calls by values. -/
namespace VL
open PySem PySem.Spec PyProof.Rows L2

def opt {α : Type} : Option α → Res α
  | some a => .ok a
  | none => .bad
@[simp] theorem opt_some {α : Type} (a : α) : opt (some a) = .ok a := rfl
@[simp] theorem opt_none {α : Type} : opt (none : Option α) = .bad := rfl
theorem opt_sat {α : Type} {o : Option α} {P : α → Prop} {E : Exn → Prop} (h : (opt o).sat P E) : ∃ a, o = some a ∧ P a := by
  cases o with
  | none => exact h.elim
  | some a => exact ⟨a, rfl, h⟩
def eBin (f : D → D → Option D) (oa ob : Opd) : Ev := fun ρ => (oa.run ρ).bind fun p => (ob.run p.2).bind fun s => (oa.fin p.1 s.2).bind fun dx => (ob.fin s.1 s.2).bind fun dy => (opt (f dx dy)).bind fun d => .ok (d, s.2)

/-- a rule of two values, by a function of data -/
def OpF (K : PySem.W.Frag) (mg : Str → Option Value) (f : D → D → Option D) (r : R2) (m : Md) : Prop :=
  ∀ H F v w a b d Q, Same F H → Rdd K mg H F v a → Rdd K mg H F w b → f a b = some d → (∀ u H' F', Grow H F H' F' → NewOk K mg m H H' F' u d → Q u H') → r v w H Q

section
variable {X : Cx} {Γ Γ' Γ1 Γ2 Γ3 : Gm} {W : WE} {e a b c : Expr} {pos : Pos} {m : Md} {ev : Ev} {et : Et} {oa ob : Opd} {f : D → D → Option D} {r : R2}
theorem ve_two {op : V → V → Hp → VK → Prop} (hf : OpF X.K X.mg f op m) {σ : St} {H : Hp} {Q : VK} (h : trE X Γ Γ2 W m (eBin f oa ob) σ H Q) :
    tOp op (trB X Γ Γ1 W oa) (trB X Γ1 Γ2 W ob) σ H Q := by
  obtain ⟨ρ, F, rl, q⟩ := h
  unfold eBin at q
  refine bor2 (k := fun dx dy ρ2 => (opt (f dx dy)).bind fun d => .ok (d, ρ2)) rl q fun dx dy ρ2 x y H2 F2 q e2 r2 hx hy => ?_
  obtain ⟨d, hd, q⟩ := opt_sat (Res.sat_bind.mp q)
  exact hf H2 F2 x y dx dy d Q r2.sub hx hy hd fun u H3 F3 g n => q u H3 F3 (e2.trans g.evo) (r2.grow g) (by
    have n' := n.val r2
    cases m <;> first | exact n' | skip
    exact ⟨n'.1, fun c p e => ⟨e2.dom p (n'.2 c p e).1, (n'.2 c p e).2⟩⟩)
theorem ve_bin {op : Operator} (ho : OpR X (binaryOp op) r) (hf : OpF X.K X.mg f r m) (ha : VB X Γ Γ1 W a oa) (hb : VB X Γ1 Γ2 W b ob) : VE X Γ Γ2 W (.BinOp a op b pos) m (eBin f oa ob) :=
  peImp (pe_op ho ha hb) fun _ _ _ h => ve_two hf h
theorem ve_cmp {op : CmpOp} (ho : OpR X (compareOp op) r) (hf : OpF X.K X.mg f r m) (ha : VB X Γ Γ1 W a oa) (hb : VB X Γ1 Γ2 W b ob) (hm : behindInMarks op b = false) : VE X Γ Γ2 W (.Compare a [op] [b] pos) m (eBin f oa ob) :=
  peImp (pe_cmpR ho ha hb hm) fun _ _ _ h => ve_two hf h
theorem ve_ix (hr : IxR X r) (hf : OpF X.K X.mg f r m) (ha : VB X Γ Γ1 W a oa) (hb : VB X Γ1 Γ2 W b ob) (hs : PlainIx b) : VE X Γ Γ2 W (.Subscript a b pos) m (eBin f oa ob) :=
  peImp (pe_ix hr ha hb hs) fun _ _ _ h => ve_two hf h
end

/-! ### reading a datum back from its value -/
section
variable {K : PySem.W.Frag} {mg : Str → Option Value} {H F H' F' : Hp} {v u : V} {d : D} {m : Md}
theorem Rdd.of_rep (h : cellD d = false) (r : Rdd K mg H F v d) : rep K mg F d v := by
  unfold Rdd at r; rw [if_neg (by rw [h]; decide)] at r; exact r
theorem Rdd.int {i : Int} (r : Rdd K mg H F v (.int i)) : v = .int i := by have := Rdd.of_rep rfl r; simpa only [rep] using this
theorem Rdd.bl {i : Bool} (r : Rdd K mg H F v (.bl i)) : v = .bl i := by have := Rdd.of_rep rfl r; simpa only [rep] using this
theorem Rdd.non (r : Rdd K mg H F v .non) : v = .non := by have := Rdd.of_rep rfl r; simpa only [rep] using this
theorem Rdd.str {l : List Nat} (r : Rdd K mg H F v (.str l)) : v = .str ⟨l.toArray⟩ := by have := Rdd.of_rep rfl r; simpa only [rep] using this
theorem Rdd.tup {l : List D} (r : Rdd K mg H F v (.tup l)) : ∃ p vs, v = .ref p ∧ SqT K F p vs ∧ reps K mg F l vs := by have := Rdd.of_rep rfl r; simpa only [rep] using this
theorem Rdd.scr {l : List Int} (r : Rdd K mg H F v (.scr l)) : ∃ p, v = .ref p ∧ SqL K F p (l.map V.int) := by have := Rdd.of_rep rfl r; simpa only [rep] using this
theorem Rdd.lst {l : List D} (r : Rdd K mg H F v (.lst l)) : ∃ p vs, v = .ref p ∧ H p = some (.lst vs) ∧ reps K mg F l vs := by
  unfold Rdd at r
  rw [if_pos (show cellD (.lst l) = true from rfl)] at r
  obtain ⟨p, o, e, h, vs, rfl, c⟩ := r
  exact ⟨p, vs, e, h, c⟩
theorem NewOk.atom (h : cellD d = false) (r : rep K mg F' d u) : NewOk K mg m H H' F' u d := by
  cases m <;> first | exact r | skip
  exact ⟨by unfold Cell; rw [if_neg (by rw [h]; decide)]; exact r, fun c => by rw [h] at c; cases c⟩
theorem NewOk.newL {p : Addr} {vs : List V} {l : List D} (hp : H p = none) (s : Same F H) (r : reps K mg F l vs) : NewOk K mg .own H (upd H p (.lst vs)) F (.ref p) (.lst l) :=
  ⟨by
    unfold Cell
    rw [if_pos (show cellD (.lst l) = true from rfl)]
    exact ⟨p, _, rfl, upd_same, ⟨vs, rfl, r⟩, L2.Same.free s hp⟩, fun _ q e => by cases e; exact hp⟩
theorem rep_tup_new {p : Addr} {vs : List V} {l : List D} (hp : H p = none) (s : Same F H) (r : reps K mg F l vs) : rep K mg (upd F p (.tup vs)) (.tup l) (.ref p) := by
  simp only [rep]
  exact ⟨p, vs, rfl, .inl (.inl upd_same), reps_mono (Same.updN (L2.Same.free s hp)) r⟩
end

/-! ### + -/
def dAdd : D → D → Option D
  | .int i, .int j => some (.int (i + j))
  | .str a, .str b => if a.length + b.length ≤ 16777216 then some (.str (a ++ b)) else none
  | .lst a, .lst b => if a.length + b.length ≤ 16777216 then some (.lst (a ++ b)) else none
  | .tup a, .tup b => if a.length + b.length ≤ 16777216 then some (.tup (a ++ b)) else none
  | _, _ => none
theorem sqT_same {K : PySem.W.Frag} {F H : Hp} {p : Addr} {vs : List V} (s : Same F H) (h : SqT K F p vs) : SqT K H p vs := Same.sqT s h
def rAddA (K : PySem.W.Frag) : R2 := fun x y H Q => (rI0 (fun i j => .int (i + j)) x y H Q) ∨ ((∃ i j, x = .str i ∧ y = .str j ∧ i.length + j.length ≤ sizeLine ∧ Q (.str (i ++ j)) H) ∨ (rCat x y H Q ∨ rCatA K x y H Q))
theorem op_addA {X : Cx} : OpR X (binaryOp .Add) (rAddA X.K) := op_add.or (op_add_str.or (op_cat.or op_catA))
theorem str_append (a b : List Nat) : (⟨a.toArray⟩ : Str) ++ ⟨b.toArray⟩ = ⟨(a ++ b).toArray⟩ := by
  show (Str.append _ _) = _
  unfold Str.append
  simp
theorem f_add {K : PySem.W.Frag} {mg : Str → Option Value} : OpF K mg dAdd (rAddA K) .own := by
  intro H F v w a b d Q s ra rb hf q
  unfold dAdd at hf
  split at hf
  · cases hf
    exact .inl ⟨_, _, ra.int, rb.int, q _ H F (Grow.refl s) (.atom rfl rfl)⟩
  · split at hf <;> cases hf
    rename_i x y h
    refine .inr (.inl ⟨_, _, ra.str, rb.str, by rw [sizeLine_eq]; simpa [Str.length] using h, ?_⟩)
    rw [str_append]
    exact q _ H F (Grow.refl s) (.atom rfl (by simp only [rep]))
  · split at hf <;> cases hf
    rename_i x y h
    obtain ⟨p, vs, rfl, h1, h2⟩ := ra.lst
    obtain ⟨p', vs', rfl, h1', h2'⟩ := rb.lst
    refine .inr (.inr (.inl ⟨p, p', vs, vs', rfl, rfl, h1, h1', by rw [sizeLine_eq, reps_length h2, reps_length h2']; exact h, fun n hn => ?_⟩))
    exact q _ _ F (Grow.newO s hn) (.newL hn s (reps_append h2 h2'))
  · split at hf <;> cases hf
    rename_i x y h
    obtain ⟨p, vs, rfl, h1, h2⟩ := ra.tup
    obtain ⟨p', vs', rfl, h1', h2'⟩ := rb.tup
    refine .inr (.inr (.inr ?_))
    unfold rCatA
    refine ⟨p, p', vs, vs', rfl, rfl, sqT_same s h1, sqT_same s h1', by rw [sizeLine_eq, reps_length h2, reps_length h2']; exact h, ?_⟩
    refine ⟨fun e => ?_, fun e1 e => ?_, fun e1 e2 n hn => ?_⟩
    · subst e
      have e : x = [] := by have := reps_length h2; cases x with
        | nil => rfl
        | cons _ _ => simp at this
      subst e
      exact q _ H F (Grow.refl s) (.atom rfl (by simp only [rep, List.nil_append]; exact ⟨p', vs', rfl, h1', h2'⟩))
    · subst e
      have e : y = [] := by have := reps_length h2'; cases y with
        | nil => rfl
        | cons _ _ => simp at this
      subst e
      exact q _ H F (Grow.refl s) (.atom rfl (by simp only [rep, List.append_nil]; exact ⟨p, vs, rfl, h1, h2⟩))
    · exact q _ _ _ (Grow.newF s hn) (.atom rfl (rep_tup_new hn s (reps_append h2 h2')))
  · cases hf
/-! ### the other operators of ints -/
def dInt2 (C : Int → Int → Bool) (g : Int → Int → Int) : D → D → Option D
  | .int i, .int j => if C i j = true then some (.int (g i j)) else none
  | _, _ => none
theorem f_int2 {K : PySem.W.Frag} {mg : Str → Option Value} {C : Int → Int → Bool} {C' : Int → Int → Prop} {g : Int → Int → Int} (h : ∀ i j, C i j = true → C' i j) :
    OpF K mg (dInt2 C g) (rI C' fun i j => .int (g i j)) .fz := by
  intro H F v w a b d Q s ra rb hf q
  unfold dInt2 at hf
  split at hf
  · split at hf <;> cases hf
    rename_i hc
    exact ⟨_, _, ra.int, rb.int, h _ _ hc, q _ H F (Grow.refl s) (.atom rfl rfl)⟩
  · cases hf
def dSub : D → D → Option D
  | .int i, .int j => some (.int (i - j))
  | _, _ => none
theorem f_sub {K : PySem.W.Frag} {mg : Str → Option Value} : OpF K mg dSub (rI0 fun i j => .int (i - j)) .fz := by
  intro H F v w a b d Q s ra rb hf q
  unfold dSub at hf
  split at hf
  · cases hf
    exact ⟨_, _, ra.int, rb.int, q _ H F (Grow.refl s) (.atom rfl rfl)⟩
  · cases hf
def cMulB (i j : Int) : Bool := decide (i.natAbs < 18446744073709551616 ∨ j.natAbs < 18446744073709551616)
theorem cMul_ok (i j : Int) (h : cMulB i j = true) : CMul i j := by
  unfold cMulB at h
  have := of_decide_eq_true h
  unfold CMul
  rcases this with h | h
  · left; omega
  · right; omega
def cModB (_ j : Int) : Bool := decide (j ≠ 0)
def cDivB (_ j : Int) : Bool := decide (j ≠ 0 ∧ j.natAbs < 1073741824)
def cPowB (i j : Int) : Bool := decide (0 ≤ j ∧ j ≤ 1000000 ∧ i.natAbs < 18446744073709551616)
def dMod : D → D → Option D := dInt2 cModB Int.fmod
def dFdiv : D → D → Option D := dInt2 cDivB Int.fdiv
def dPow : D → D → Option D := dInt2 cPowB fun i j => i ^ j.toNat
theorem f_mod {K : PySem.W.Frag} {mg : Str → Option Value} : OpF K mg dMod (rI (fun _ j => j ≠ 0) fun i j => .int (i.fmod j)) .fz := f_int2 fun _ _ h => of_decide_eq_true h
theorem f_fdiv {K : PySem.W.Frag} {mg : Str → Option Value} : OpF K mg dFdiv (rI CDivN fun i j => .int (i.fdiv j)) .fz := f_int2 fun i j h => of_decide_eq_true (p := j ≠ 0 ∧ j.natAbs < 1073741824) h
theorem f_pow {K : PySem.W.Frag} {mg : Str → Option Value} : OpF K mg dPow (rI CPow fun i j => .int (i ^ j.toNat)) .fz := f_int2 fun i j h => of_decide_eq_true (p := 0 ≤ j ∧ j ≤ 1000000 ∧ i.natAbs < 18446744073709551616) h
theorem foldl_repA {α : Type} (a : List α) : ∀ (n : Nat) (b : List α), List.foldl (fun x1 x2 => x1 ++ x2) b.toArray (List.replicate n a.toArray) = (b ++ (List.replicate n a).flatten).toArray
  | 0, b => by simp
  | n + 1, b => by
    simp only [List.replicate_succ, List.foldl_cons, List.flatten_cons]
    have := foldl_repA a n (b ++ a)
    rw [show b.toArray ++ a.toArray = (b ++ a).toArray by simp, this, List.append_assoc]
theorem txt_mul (a : List Nat) (k : Int) : Txt.mul ⟨a.toArray⟩ k = ⟨(List.replicate k.toNat a).flatten.toArray⟩ := by
  unfold Txt.mul
  by_cases h : k < 1
  · rw [if_pos h]
    have : k.toNat = 0 := by omega
    rw [this]; rfl
  · rw [if_neg h]
    split
    · rename_i h2
      rw [Bool.or_eq_true] at h2
      rcases h2 with h2 | h2
      · have : k = 1 := by simpa using h2
        subst this
        simp
      · have : a = [] := by
          have : a.toArray.size = 0 := by simpa [Str.length] using h2
          simpa using this
        subst this
        simp
    · have := foldl_repA a k.toNat []
      simpa using this
def rMulS : R2 := fun x y H Q => ∃ (a : List Nat) (k : Int), x = .str ⟨a.toArray⟩ ∧ y = .int k ∧ -16777216 ≤ k ∧ k ≤ 16777216 ∧ a.length * k.toNat ≤ 16777216 ∧ Q (.str ⟨(List.replicate k.toNat a).flatten.toArray⟩) H
theorem op_mulS {X : Cx} : OpR X (binaryOp .Mult) rMulS := by
  intro pins s σ H x y v u Q I rx ry h
  obtain ⟨a, k, rfl, rfl, h1, h2, hl, q⟩ := h
  obtain ⟨t, rfl⟩ := rx
  obtain ⟨t', rfl⟩ := ry
  refine SB.mul ⟨?_, fun g _ => ?_, fun g _ => ?_⟩ fun t2 tk => ⟨.str (Txt.mul ⟨a.toArray⟩ k), H, I.tok _, ⟨_, rfl⟩, ?_⟩
  · rw [decide_eq_false (by omega), decide_eq_false (by omega)]; rfl
  · intro z
    have e2 : Str.length ⟨a.toArray⟩ = a.length := by simp [Str.length]
    rw [e2] at z
    have h3 : ((a.length * k.toNat : Nat) : Int) ≤ ((16777216 : Nat) : Int) := Int.ofNat_le.mpr hl
    have e : ((a.length : Int)) * k ≤ 16777216 := by
      have e3 : (k.toNat : Int) = k := by omega
      rw [Int.natCast_mul, e3] at h3
      exact h3
    have h5 : ((a.length : Int)) ≤ (2 ^ 63 - 1) / k := (Int.le_ediv_iff_mul_le (by omega)).mpr (by omega)
    exact absurd h5 (Int.not_le.mpr z)
  · have e2 : Str.length ⟨a.toArray⟩ = a.length := by simp [Str.length]
    rw [e2]
    show decide (a.length * k.toNat > sizeLine) = false
    rw [sizeLine_eq]
    exact decide_eq_false (by omega)
  · rw [txt_mul]; exact q
/-- a * b: ints; a list, a text k times -/
def dMul : D → D → Option D
  | .str a, .int k => if k ≤ 16777216 ∧ -16777216 ≤ k ∧ a.length * k.toNat ≤ 16777216 then some (.str (List.replicate k.toNat a).flatten) else none
  | .int i, .int j => if cMulB i j = true then some (.int (i * j)) else none
  | .lst a, .int k => if k ≤ 16777216 ∧ -16777216 ≤ k ∧ a.length * k.toNat ≤ 16777216 then some (.lst (List.replicate k.toNat a).flatten) else none
  | _, _ => none
theorem reps_rep {K : PySem.W.Frag} {mg : Str → Option Value} {F : Hp} {ds : List D} {vs : List V} (h : reps K mg F ds vs) : ∀ n : Nat, reps K mg F (List.replicate n ds).flatten (List.replicate n vs).flatten
  | 0 => by simpa using reps_nil
  | n + 1 => by
    simp only [List.replicate_succ, List.flatten_cons]
    exact reps_append h (reps_rep h n)
theorem f_mul {K : PySem.W.Frag} {mg : Str → Option Value} : OpF K mg dMul (fun x y H Q => rI CMul (fun i j => .int (i * j)) x y H Q ∨ (rRep x y H Q ∨ rMulS x y H Q)) .own := by
  intro H F v w a b d Q s ra rb hf q
  unfold dMul at hf
  split at hf
  · split at hf <;> cases hf
    rename_i x k hc
    exact .inr (.inr ⟨x, k, ra.str, rb.int, by omega, by omega, hc.2.2, q _ H F (Grow.refl s) (.atom rfl rfl)⟩)
  · split at hf <;> cases hf
    rename_i hc
    exact .inl ⟨_, _, ra.int, rb.int, cMul_ok _ _ hc, q _ H F (Grow.refl s) (.atom rfl rfl)⟩
  · split at hf <;> cases hf
    rename_i x k hc
    obtain ⟨p, vs, rfl, h1, h2⟩ := ra.lst
    refine .inr (.inl ⟨p, k, vs, rfl, rb.int, h1, by omega, by omega, by rw [sizeLine_eq, reps_length h2]; exact hc.2.2, fun n hn => ?_⟩)
    exact q _ _ F (Grow.newO s hn) (.newL hn s (reps_rep h2 _))
  · cases hf
theorem op_mulA {X : Cx} : OpR X (binaryOp .Mult) (fun x y H Q => rI CMul (fun i j => .int (i * j)) x y H Q ∨ (rRep x y H Q ∨ rMulS x y H Q)) := op_mul.or (op_rep.or op_mulS)

/-! ### == -/
mutual
def pyd : D → PyData
  | .non => .none
  | .bl b => .bool b
  | .int i => .int i
  | .str l => .str ⟨l.toArray⟩
  | .tup l => .tuple (pyds l)
  | .lst l => .list (pyds l)
  | .dct _ => .none
  | .lck _ => .none
  | .obj _ _ => .none
  | .scr _ => .none
  | .exc _ _ => .none
def pyds : List D → List PyData
  | [] => []
  | d :: ds => pyd d :: pyds ds
end
mutual
def goodD : Nat → D → Bool
  | _, .non => true
  | _, .bl _ => true
  | _, .int _ => true
  | _, .str l => l.all fun c => decide (c < 1114112)
  | n, .tup l => match n with
    | 0 => false
    | n + 1 => goodDs n l
  | n, .lst l => match n with
    | 0 => false
    | n + 1 => goodDs n l
  | _, .dct _ => false
  | _, .lck _ => false
  | _, .obj _ _ => false
  | _, .scr _ => false
  | _, .exc _ _ => false
def goodDs : Nat → List D → Bool
  | _, [] => true
  | n, d :: ds => goodD n d && goodDs n ds
end
mutual
def eqD : D → D → Bool
  | .non, b => match b with | .non => true | _ => false
  | .bl a, b => match b with | .bl b => a == b | .int j => (if a then (1 : Int) else 0) == j | _ => false
  | .int i, b => match b with | .bl b => i == (if b then (1 : Int) else 0) | .int j => i == j | _ => false
  | .str a, b => match b with | .str b => a == b | _ => false
  | .lst a, b => match b with | .lst b => eqDs a b | _ => false
  | .tup a, b => match b with | .tup b => eqDs a b | _ => false
  | .dct _, _ => false
  | .lck _, _ => false
  | .obj _ _, _ => false
  | .scr _, _ => false
  | .exc _ _, _ => false
def eqDs : List D → List D → Bool
  | [], b => match b with | [] => true | _ :: _ => false
  | x :: xs, b => match b with | [] => false | y :: ys => eqD x y && eqDs xs ys
end
mutual
theorem good_lay : ∀ (d : D) (n : Nat), goodD n d = true → (pyd d).canLay0 = true ∧ (pyd d).depth ≤ n
  | .non, _, _ => by simp [pyd, PyData.canLay0, PyData.depth]
  | .bl _, _, _ => by simp [pyd, PyData.canLay0, PyData.depth]
  | .int _, _, _ => by simp [pyd, PyData.canLay0, PyData.depth]
  | .str l, _, h => by
    simp only [goodD] at h
    simp only [pyd, PyData.canLay0, PyData.depth, Nat.zero_le, and_true, PyData.strOk]
    rw [← h]
    simp
  | .tup l, 0, h => by simp [goodD] at h
  | .lst l, 0, h => by simp [goodD] at h
  | .tup l, n + 1, h => by
    simp only [goodD] at h
    obtain ⟨h1, h2⟩ := goods_lay l n h
    simp only [pyd, PyData.canLay0, PyData.depth]
    exact ⟨h1, by omega⟩
  | .lst l, n + 1, h => by
    simp only [goodD] at h
    obtain ⟨h1, h2⟩ := goods_lay l n h
    simp only [pyd, PyData.canLay0, PyData.depth]
    exact ⟨h1, by omega⟩
  | .dct _, _, h => by simp [goodD] at h
  | .lck _, _, h => by simp [goodD] at h
  | .obj _ _, _, h => by simp [goodD] at h
  | .scr _, _, h => by simp [goodD] at h
  | .exc _ _, _, h => by simp [goodD] at h
theorem goods_lay : ∀ (l : List D) (n : Nat), goodDs n l = true → PyData.canLayAll0 (pyds l) = true ∧ PyData.depthAll (pyds l) ≤ n
  | [], n, _ => by simp [pyds, PyData.canLayAll0, PyData.depthAll]
  | d :: ds, n, h => by
    simp only [goodDs, Bool.and_eq_true] at h
    obtain ⟨h1, h2⟩ := good_lay d n h.1
    obtain ⟨h3, h4⟩ := goods_lay ds n h.2
    simp only [pyds, PyData.canLayAll0, PyData.depthAll, Bool.and_eq_true]
    exact ⟨⟨h1, h3⟩, by omega⟩
end
theorem good_shaped {d : D} (h : goodD 60 d = true) : SeqAt.shaped (pyd d) = true := by
  obtain ⟨h1, h2⟩ := good_lay d 60 h
  unfold SeqAt.shaped
  rw [h1, decide_eq_true (by omega)]
  rfl
section
variable {K : PySem.W.Frag} {mg : Str → Option Value} {F H : Hp}
mutual
theorem rep_dp (s : Same F H) : ∀ (d : D) (n : Nat) (v : V), goodD n d = true → rep K mg F d v → Dp K H v (pyd d)
  | .non, _, _, _, r => by simp only [rep] at r; subst r; exact .non
  | .bl b, _, _, _, r => by simp only [rep] at r; subst r; exact .bl b
  | .int i, _, _, _, r => by simp only [rep] at r; subst r; exact .int i
  | .str l, _, _, _, r => by simp only [rep] at r; subst r; exact .str _
  | .tup l, 0, _, h, _ => by simp [goodD] at h
  | .lst l, 0, _, h, _ => by simp [goodD] at h
  | .tup l, n + 1, _, h, r => by
    simp only [goodD] at h
    simp only [rep] at r
    obtain ⟨p, vs, rfl, h1, h2⟩ := r
    exact .tup (Same.sqT s h1) (reps_dp s l n vs h h2)
  | .lst l, n + 1, _, h, r => by
    simp only [goodD] at h
    simp only [rep] at r
    obtain ⟨p, vs, rfl, h1, h2⟩ := r
    exact .lst (.of (s _ _ h1)) (reps_dp s l n vs h h2)
  | .dct _, _, _, h, _ => by simp [goodD] at h
  | .lck _, _, _, h, _ => by simp [goodD] at h
  | .obj _ _, _, _, h, _ => by simp [goodD] at h
  | .scr _, _, _, h, _ => by simp [goodD] at h
  | .exc _ _, _, _, h, _ => by simp [goodD] at h
theorem reps_dp (s : Same F H) : ∀ (l : List D) (n : Nat) (vs : List V), goodDs n l = true → reps K mg F l vs → DpAll K H vs (pyds l)
  | [], _, _, _, r => by simp only [reps] at r; subst r; exact .nil
  | d :: ds, n, _, h, r => by
    simp only [goodDs, Bool.and_eq_true] at h
    simp only [reps] at r
    obtain ⟨v, vs, rfl, h1, h2⟩ := r
    exact .cons (rep_dp s d n v h.1 h1) (reps_dp s ds n vs h.2 h2)
end
theorem rdd_dp (s : Same F H) {d : D} {n : Nat} {v : V} (h : goodD n d = true) (r : Rdd K mg H F v d) : Dp K H v (pyd d) := by
  by_cases hc : cellD d = true
  · cases d <;> first | (cases hc; done) | (simp [goodD] at h; done) | skip
    rename_i l
    obtain ⟨p, vs, rfl, h1, h2⟩ := r.lst
    cases n with
    | zero => simp [goodD] at h
    | succ n =>
      simp only [goodD] at h
      exact .lst (.of h1) (reps_dp s l n vs h h2)
  · have hc : cellD d = false := by simpa using hc
    exact rep_dp s d n v h (r.of_rep hc)
end
theorem beq_str (a b : List Nat) : ((⟨a.toArray⟩ : Str) == ⟨b.toArray⟩) = (a == b) := by
  by_cases h : a = b
  · subst h; simp
  · rw [beq_eq_false_iff_ne.mpr h]
    refine beq_eq_false_iff_ne.mpr fun e => h ?_
    have := congrArg (fun s : Str => s.cps.toList) e
    simpa using this
mutual
theorem eqv_eqD : ∀ (a b : D) (n k : Nat), goodD n a = true → goodD k b = true → PyData.eqv (pyd a) (pyd b) = eqD a b
  | .non, b, _, k, _, hb => by cases b <;> first | (simp [goodD] at hb; done) | simp only [pyd, PyData.eqv, eqD]
  | .bl a, b, _, k, _, hb => by cases b <;> first | (simp [goodD] at hb; done) | simp only [pyd, PyData.eqv, eqD]
  | .int a, b, _, k, _, hb => by cases b <;> first | (simp [goodD] at hb; done) | simp only [pyd, PyData.eqv, eqD]
  | .str a, b, _, k, _, hb => by cases b <;> first | (simp [goodD] at hb; done) | simp only [pyd, PyData.eqv, eqD, beq_str]
  | .tup l, b, 0, k, ha, hb => by simp [goodD] at ha
  | .lst l, b, 0, k, ha, hb => by simp [goodD] at ha
  | .tup l, b, n + 1, k, ha, hb => by
    cases b <;> first | (simp [goodD] at hb; done) | (simp only [pyd, PyData.eqv, eqD]; done) | skip
    rename_i l'
    cases k with
    | zero => simp [goodD] at hb
    | succ k =>
      simp only [goodD] at ha hb
      simp only [pyd, PyData.eqv, eqD]
      exact eqvs_eqDs l l' n k ha hb
  | .lst l, b, n + 1, k, ha, hb => by
    cases b <;> first | (simp [goodD] at hb; done) | (simp only [pyd, PyData.eqv, eqD]; done) | skip
    rename_i l'
    cases k with
    | zero => simp [goodD] at hb
    | succ k =>
      simp only [goodD] at ha hb
      simp only [pyd, PyData.eqv, eqD]
      exact eqvs_eqDs l l' n k ha hb
  | .dct _, _, _, _, h, _ => by simp [goodD] at h
  | .lck _, _, _, _, h, _ => by simp [goodD] at h
  | .obj _ _, _, _, _, h, _ => by simp [goodD] at h
  | .scr _, _, _, _, h, _ => by simp [goodD] at h
  | .exc _ _, _, _, _, h, _ => by simp [goodD] at h
theorem eqvs_eqDs : ∀ (a b : List D) (n k : Nat), goodDs n a = true → goodDs k b = true → PyData.eqvAll (pyds a) (pyds b) = eqDs a b
  | [], b, _, _, _, _ => by cases b <;> simp only [pyds, PyData.eqvAll, eqDs]
  | x :: xs, b, n, k, ha, hb => by
    cases b with
    | nil => simp only [pyds, PyData.eqvAll, eqDs]
    | cons y ys =>
      simp only [goodDs, Bool.and_eq_true] at ha hb
      simp only [pyds, PyData.eqvAll, eqDs]
      rw [eqv_eqD x y n k ha.1 hb.1, eqvs_eqDs xs ys n k ha.2 hb.2]
end
/-- two scalars that == tells apart as data does -/
def scalD : D → D → Bool
  | .non, .non => true
  | .non, .int _ => true
  | .int _, .non => true
  | .non, .bl _ => true
  | .bl _, .non => true
  | .non, .str _ => true
  | .str _, .non => true
  | .int _, .int _ => true
  | .bl _, .bl _ => true
  | .str _, .str _ => true
  | .int _, .str _ => true
  | .str _, .int _ => true
  | .bl _, .str _ => true
  | .str _, .bl _ => true
  | _, _ => false
def dEq (a b : D) : Option D := if scalD a b = true ∨ (goodD 60 a = true ∧ goodD 60 b = true) then some (.bl (eqD a b)) else none
def dNe (a b : D) : Option D := if scalD a b = true ∨ (goodD 60 a = true ∧ goodD 60 b = true) then some (.bl (!eqD a b)) else none
theorem scal_of {K : PySem.W.Frag} {mg : Str → Option Value} {H F : Hp} {a b : D} {v w : V} (h : scalD a b = true) (ra : Rdd K mg H F v a) (rb : Rdd K mg H F w b) : scal v w = true ∧ decide (v = w) = eqD a b := by
  cases a <;> cases b <;> first | (simp [scalD] at h; done) | skip
  all_goals first | (rw [ra.non]) | (rw [ra.int]) | (rw [ra.bl]) | (rw [ra.str])
  all_goals first | (rw [rb.non]) | (rw [rb.int]) | (rw [rb.bl]) | (rw [rb.str])
  all_goals refine ⟨rfl, ?_⟩
  all_goals first | (simp only [eqD]; first | (rw [dec_int]) | (rw [dec_bl]) | (rw [dec_str, beq_str]) | exact decide_eq_false (fun e => nomatch e) | simp)
def rEqA (K : PySem.W.Frag) : R2 := fun x y H Q => rEq x y H Q ∨ rEqD K x y H Q
def rNeA (K : PySem.W.Frag) : R2 := fun x y H Q => rNe x y H Q ∨ rNeD K x y H Q
theorem op_eqA {X : Cx} (hu : X.A.units + 64 < cLine) : OpR X (compareOp .Eq) (rEqA X.K) := op_eq.or (op_eqD hu)
theorem op_neA {X : Cx} (hu : X.A.units + 64 < cLine) : OpR X (compareOp .NotEq) (rNeA X.K) := op_ne.or (op_neD hu)
theorem f_eq {K : PySem.W.Frag} {mg : Str → Option Value} : OpF K mg dEq (rEqA K) .fz := by
  intro H F v w a b d Q s ra rb hf q
  unfold dEq at hf
  split at hf <;> cases hf
  rename_i hc
  rcases hc with h | ⟨h1, h2⟩
  · obtain ⟨k1, k2⟩ := scal_of h ra rb
    exact .inl ⟨k1, by rw [k2]; exact q _ H F (Grow.refl s) (.atom rfl rfl)⟩
  · exact .inr ⟨_, _, rdd_dp s h1 ra, rdd_dp s h2 rb, good_shaped h1, good_shaped h2, by rw [eqv_eqD a b 60 60 h1 h2]; exact q _ H F (Grow.refl s) (.atom rfl rfl)⟩
theorem f_ne {K : PySem.W.Frag} {mg : Str → Option Value} : OpF K mg dNe (rNeA K) .fz := by
  intro H F v w a b d Q s ra rb hf q
  unfold dNe at hf
  split at hf <;> cases hf
  rename_i hc
  rcases hc with h | ⟨h1, h2⟩
  · obtain ⟨k1, k2⟩ := scal_of h ra rb
    exact .inl ⟨k1, by rw [k2]; exact q _ H F (Grow.refl s) (.atom rfl rfl)⟩
  · exact .inr ⟨_, _, rdd_dp s h1 ra, rdd_dp s h2 rb, good_shaped h1, good_shaped h2, by rw [eqv_eqD a b 60 60 h1 h2]; exact q _ H F (Grow.refl s) (.atom rfl rfl)⟩
end VL

set_option Elab.async false
set_option linter.all false
set_option maxRecDepth 100000
/-! VL3: comparisons by order, in, subscripts, slices, tests, arguments, built-in calls, displays. -/
namespace VL
open PySem PySem.Spec PyProof.Rows L2

/-! ### order -/
def lexLtD : List D → List D → Option Bool
  | [], [] => some false
  | [], .int _ :: r => (lexLtD [] r).bind fun _ => some true
  | .int _ :: r, [] => (lexLtD r []).bind fun _ => some false
  | .int x :: xs, .int y :: ys => (lexLtD xs ys).bind fun b => some (if x = y then b else decide (x < y))
  | _, _ => none
theorem lexLtD_ok : ∀ {a b : List D} {k : Bool}, lexLtD a b = some k → ∃ ns ms : List Int, a = ns.map D.int ∧ b = ms.map D.int ∧ HT.lexLt ns ms = k
  | [], [], _, h => by simp only [lexLtD] at h; cases h; exact ⟨[], [], rfl, rfl, rfl⟩
  | [], d :: r, k, h => by
    cases d <;> simp only [lexLtD] at h <;> first | (cases h; done) | skip
    rename_i i
    cases hr : lexLtD [] r with
    | none => rw [hr] at h; cases h
    | some q =>
      rw [hr] at h; cases h
      obtain ⟨ns, ms, e1, e2, _⟩ := lexLtD_ok hr
      have e1 : ns = [] := by cases ns with
        | nil => rfl
        | cons _ _ => cases e1
      subst e1 e2
      exact ⟨[], i :: ms, rfl, rfl, rfl⟩
  | d :: r, [], k, h => by
    cases d <;> simp only [lexLtD] at h <;> first | (cases h; done) | skip
    rename_i i
    cases hr : lexLtD r [] with
    | none => rw [hr] at h; cases h
    | some q =>
      rw [hr] at h; cases h
      obtain ⟨ns, ms, e1, e2, _⟩ := lexLtD_ok hr
      have e2 : ms = [] := by cases ms with
        | nil => rfl
        | cons _ _ => cases e2
      subst e1 e2
      exact ⟨i :: ns, [], rfl, rfl, rfl⟩
  | c :: r, d :: t, k, h => by
    cases c <;> cases d <;> simp only [lexLtD] at h <;> first | (cases h; done) | skip
    rename_i i j
    cases hr : lexLtD r t with
    | none => rw [hr] at h; cases h
    | some q =>
      rw [hr] at h; cases h
      obtain ⟨ns, ms, e1, e2, e3⟩ := lexLtD_ok hr
      subst e1 e2
      exact ⟨i :: ns, j :: ms, rfl, rfl, by rw [HT.lexLt_cons, e3]⟩
def dLt : D → D → Option D
  | .int i, .int j => some (.bl (decide (i < j)))
  | .str a, .str b => some (.bl (decide (a < b)))
  | .tup a, .tup b => (lexLtD a b).map .bl
  | _, _ => none
def dGt : D → D → Option D
  | .int i, .int j => some (.bl (decide (j < i)))
  | .str a, .str b => some (.bl (decide (b < a)))
  | _, _ => none
def dLe : D → D → Option D
  | .int i, .int j => some (.bl (decide (i ≤ j)))
  | .str a, .str b => some (.bl (!decide (b < a)))
  | _, _ => none
def dGe : D → D → Option D
  | .int i, .int j => some (.bl (decide (j ≤ i)))
  | .str a, .str b => some (.bl (!decide (a < b)))
  | _, _ => none
section
variable {X : Cx} {K : PySem.W.Frag} {mg : Str → Option Value}
def rLtA (K : PySem.W.Frag) : R2 := fun x y H Q => rI0 (fun i j => .bl (decide (i < j))) x y H Q ∨ ((∃ i j, x = .str i ∧ y = .str j ∧ Q (.bl (decide (i.cps.toList < j.cps.toList))) H) ∨ rLtT K x y H Q)
theorem op_ltA (hu : X.A.units < cLine) : OpR X (compareOp .Lt) (rLtA X.K) := op_lt.or (op_lt_str.or (op_ltT hu))
theorem f_lt : OpF K mg dLt (rLtA K) .fz := by
  intro H F v w a b d Q s ra rb hf q
  unfold dLt at hf
  split at hf
  · cases hf
    exact .inl ⟨_, _, ra.int, rb.int, q _ H F (Grow.refl s) (.atom rfl rfl)⟩
  · cases hf
    exact .inr (.inl ⟨_, _, ra.str, rb.str, q _ H F (Grow.refl s) (.atom rfl rfl)⟩)
  · rename_i x y
    cases hl : lexLtD x y with
    | none => rw [hl] at hf; cases hf
    | some k =>
      rw [hl] at hf; cases hf
      obtain ⟨ns, ms, e1, e2, e3⟩ := lexLtD_ok hl
      subst e1 e2 e3
      obtain ⟨p, vs, rfl, h1, h2⟩ := ra.tup
      obtain ⟨p', vs', rfl, h1', h2'⟩ := rb.tup
      rw [reps_ints h2] at h1
      rw [reps_ints h2'] at h1'
      exact .inr (.inr ⟨p, p', ns, ms, rfl, rfl, Same.sqT s h1, Same.sqT s h1', q _ H F (Grow.refl s) (.atom rfl rfl)⟩)
  · cases hf
theorem f_cmp2 {f : D → D → Option D} {p : Int → Int → Bool} {g : List Nat → List Nat → Bool} (h : ∀ a b d, f a b = some d → (∃ i j, a = .int i ∧ b = .int j ∧ d = .bl (p i j)) ∨ (∃ i j, a = .str i ∧ b = .str j ∧ d = .bl (g i j))) :
    OpF K mg f (fun x y H Q => rI0 (fun i j => .bl (p i j)) x y H Q ∨ ∃ i j, x = .str i ∧ y = .str j ∧ Q (.bl (g i.cps.toList j.cps.toList)) H) .fz := by
  intro H F v w a b d Q s ra rb hf q
  rcases h a b d hf with ⟨i, j, rfl, rfl, rfl⟩ | ⟨i, j, rfl, rfl, rfl⟩
  · exact .inl ⟨_, _, ra.int, rb.int, q _ H F (Grow.refl s) (.atom rfl rfl)⟩
  · exact .inr ⟨_, _, ra.str, rb.str, q _ H F (Grow.refl s) (.atom rfl rfl)⟩
theorem op_gtA : OpR X (compareOp .Gt) (fun x y H Q => rI0 (fun i j => .bl (decide (j < i))) x y H Q ∨ ∃ i j, x = .str i ∧ y = .str j ∧ Q (.bl (decide (j.cps.toList < i.cps.toList))) H) := op_gt.or op_gt_str
theorem op_leA : OpR X (compareOp .LtE) (fun x y H Q => rI0 (fun i j => .bl (decide (i ≤ j))) x y H Q ∨ ∃ i j, x = .str i ∧ y = .str j ∧ Q (.bl (!decide (j.cps.toList < i.cps.toList))) H) := op_le.or op_le_str
theorem op_geA : OpR X (compareOp .GtE) (fun x y H Q => rI0 (fun i j => .bl (decide (j ≤ i))) x y H Q ∨ ∃ i j, x = .str i ∧ y = .str j ∧ Q (.bl (!decide (i.cps.toList < j.cps.toList))) H) := op_ge.or op_ge_str
theorem f_gt : OpF K mg dGt (fun x y H Q => rI0 (fun i j => .bl (decide (j < i))) x y H Q ∨ ∃ i j, x = .str i ∧ y = .str j ∧ Q (.bl (decide (j.cps.toList < i.cps.toList))) H) .fz :=
  f_cmp2 (p := fun i j => decide (j < i)) (g := fun i j => decide (j < i)) fun a b d h => by
    unfold dGt at h; split at h <;> cases h
    · exact .inl ⟨_, _, rfl, rfl, rfl⟩
    · exact .inr ⟨_, _, rfl, rfl, rfl⟩
theorem f_le : OpF K mg dLe (fun x y H Q => rI0 (fun i j => .bl (decide (i ≤ j))) x y H Q ∨ ∃ i j, x = .str i ∧ y = .str j ∧ Q (.bl (!decide (j.cps.toList < i.cps.toList))) H) .fz :=
  f_cmp2 (p := fun i j => decide (i ≤ j)) (g := fun i j => !decide (j < i)) fun a b d h => by
    unfold dLe at h; split at h <;> cases h
    · exact .inl ⟨_, _, rfl, rfl, rfl⟩
    · exact .inr ⟨_, _, rfl, rfl, rfl⟩
theorem f_ge : OpF K mg dGe (fun x y H Q => rI0 (fun i j => .bl (decide (j ≤ i))) x y H Q ∨ ∃ i j, x = .str i ∧ y = .str j ∧ Q (.bl (!decide (i.cps.toList < j.cps.toList))) H) .fz :=
  f_cmp2 (p := fun i j => decide (j ≤ i)) (g := fun i j => !decide (i < j)) fun a b d h => by
    unfold dGe at h; split at h <;> cases h
    · exact .inl ⟨_, _, rfl, rfl, rfl⟩
    · exact .inr ⟨_, _, rfl, rfl, rfl⟩

/-! ### in -/
def flatD : D → Bool
  | .non => true
  | .bl _ => true
  | .int _ => true
  | .str _ => true
  | _ => false
def anyEq (x : D) : List D → Bool
  | [] => false
  | y :: ys => eqD y x || anyEq x ys
def dInB : D → D → Option Bool
  | x, .lst l => if goodD 59 x = true ∧ goodDs 59 l = true then some (anyEq x l) else none
  | x, .tup l => if flatD x = true ∧ l.all flatD = true then some (anyEq x l) else none
  | .str [c], .str l => some (decide (c ∈ l))
  | _, _ => none
def dIn (a b : D) : Option D := (dInB a b).map .bl
def dNotIn (a b : D) : Option D := (dInB a b).map fun k => .bl (!k)
theorem flat_rdd {d : D} {v : V} {F : Hp} (h : flatD d = true) (r : rep K mg F d v) : flatV v = true := by
  cases d <;> first | (cases h; done) | skip
  all_goals simp only [rep] at r; subst r; rfl
theorem flat_eq {x y : D} {v w : V} {F F' : Hp} (hx : flatD x = true) (hy : flatD y = true) (rx : rep K mg F x v) (ry : rep K mg F' y w) : eqV w v = eqD y x := by
  cases x <;> first | (cases hx; done) | skip
  all_goals cases y <;> first | (cases hy; done) | skip
  all_goals simp only [rep] at rx ry; subst rx ry; simp only [eqV, eqD, beq_str]
theorem flat_any {x : D} {v : V} {F F' : Hp} (hx : flatD x = true) (rx : rep K mg F x v) : ∀ {l : List D} {vs : List V}, l.all flatD = true → reps K mg F' l vs → inV v vs = anyEq x l ∧ vs.all flatV = true
  | [], _, _, r => by simp only [reps] at r; subst r; exact ⟨rfl, rfl⟩
  | y :: ys, _, h, r => by
    simp only [List.all_cons, Bool.and_eq_true] at h
    simp only [reps] at r
    obtain ⟨w, ws, rfl, h1, h2⟩ := r
    obtain ⟨k1, k2⟩ := flat_any hx rx h.2 h2
    refine ⟨?_, by simp only [List.all_cons, Bool.and_eq_true]; exact ⟨flat_rdd h.1 h1, k2⟩⟩
    show (eqV w v || inV v ws) = (eqD y x || anyEq x ys)
    rw [flat_eq hx h.1 rx h1, k1]
theorem any_eqv {x : D} (hx : goodD 59 x = true) : ∀ {l : List D}, goodDs 59 l = true → ((pyds l).any fun z => PyData.eqv z (pyd x)) = anyEq x l
  | [], _ => rfl
  | y :: ys, h => by
    simp only [goodDs, Bool.and_eq_true] at h
    simp only [pyds, List.any_cons, anyEq]
    rw [eqv_eqD y x 59 59 h.1 hx, any_eqv hx h.2]
def rInA (K : PySem.W.Frag) : R2 := fun x y H Q => rInD K x y H Q ∨ (rIn K false x y H Q ∨ ∃ (c : Nat) (z : Str), x = .str ⟨#[c]⟩ ∧ y = .str z ∧ Q (.bl (decide (c ∈ z.cps.toList))) H)
def rNotInA (K : PySem.W.Frag) : R2 := fun x y H Q => rNotInD K x y H Q ∨ (rIn K true x y H Q ∨ ∃ (c : Nat) (z : Str), x = .str ⟨#[c]⟩ ∧ y = .str z ∧ Q (.bl (!decide (c ∈ z.cps.toList))) H)
theorem op_inA (hu : X.A.units + 65 < cLine) : OpR X (compareOp .In) (rInA X.K) := (op_inD hu).or (op_in_seq.or op_in_sign)
theorem op_notInA (hu : X.A.units + 65 < cLine) : OpR X (compareOp .NotIn) (rNotInA X.K) := (op_notInD hu).or (op_notIn_seq.or op_notIn_sign)
theorem shaped_up {l : List D} (h : goodDs 59 l = true) : SeqAt.shaped (.list (pyds l)) = true := by
  have : goodD 60 (.lst l) = true := by simpa only [goodD] using h
  exact good_shaped this
theorem shaped59 {d : D} (h : goodD 59 d = true) : SeqAt.shaped (pyd d) = true := by
  obtain ⟨h1, h2⟩ := good_lay d 59 h
  unfold SeqAt.shaped
  rw [h1, decide_eq_true (by omega)]
  rfl
theorem f_inB {neg : Bool} {H F : Hp} {v w : V} {a b : D} {k : Bool} {Q : VK} (s : Same F H) (ra : Rdd K mg H F v a) (rb : Rdd K mg H F w b) (hf : dInB a b = some k) (q : Q (.bl (if neg then !k else k)) H) :
    (∃ d ds, Dp K H v d ∧ Dp K H w (.list ds) ∧ SeqAt.shaped d = true ∧ SeqAt.shaped (.list ds) = true ∧ Q (.bl (if neg then !(ds.any fun z => PyData.eqv z d) else ds.any fun z => PyData.eqv z d)) H) ∨
    (rIn K neg v w H Q ∨ ∃ (c : Nat) (z : Str), v = .str ⟨#[c]⟩ ∧ w = .str z ∧ Q (.bl (if neg then !decide (c ∈ z.cps.toList) else decide (c ∈ z.cps.toList))) H) := by
  unfold dInB at hf
  split at hf
  · rename_i l
    split at hf <;> cases hf
    rename_i h
    obtain ⟨p, vs, rfl, h1, h2⟩ := rb.lst
    exact .inl ⟨_, _, rdd_dp s h.1 ra, .lst (.of h1) (reps_dp s l 59 vs h.2 h2), shaped59 h.1, shaped_up h.2, by rw [any_eqv h.1 h.2]; exact q⟩
  · rename_i l
    split at hf <;> cases hf
    rename_i h
    obtain ⟨p, vs, rfl, h1, h2⟩ := rb.tup
    have hc : cellD a = false := by cases a <;> first | (cases h.1; done) | rfl
    obtain ⟨k1, k2⟩ := flat_any h.1 (ra.of_rep hc) h.2 h2
    exact .inr (.inl ⟨p, vs, rfl, .inr (Same.sqT s h1), flat_rdd h.1 (ra.of_rep hc), k2, by rw [k1]; exact q⟩)
  · cases hf
    refine .inr (.inr ⟨_, _, ra.str, rb.str, ?_⟩)
    exact q
  · cases hf
theorem f_in : OpF K mg dIn (rInA K) .fz := by
  intro H F v w a b d Q s ra rb hf q
  unfold dIn at hf
  cases hk : dInB a b with
  | none => rw [hk] at hf; cases hf
  | some k =>
    rw [hk] at hf; cases hf
    exact f_inB (neg := false) s ra rb hk (q _ H F (Grow.refl s) (.atom rfl rfl))
theorem f_notIn : OpF K mg dNotIn (rNotInA K) .fz := by
  intro H F v w a b d Q s ra rb hf q
  unfold dNotIn at hf
  cases hk : dInB a b with
  | none => rw [hk] at hf; cases hf
  | some k =>
    rw [hk] at hf; cases hf
    exact f_inB (neg := true) s ra rb hk (q _ H F (Grow.refl s) (.atom rfl rfl))

/-! ### is None -/
def isNonD : D → Bool
  | .non => true
  | _ => false
def dIsN (a b : D) : Option D := if isNonD b = true then some (.bl (isNonD a)) else none
def dNotN (a b : D) : Option D := if isNonD b = true then some (.bl (!isNonD a)) else none
theorem rdd_isN {H F : Hp} {v : V} {a : D} (ra : Rdd K mg H F v a) : decide (v = V.non) = isNonD a := by
  cases a with
  | non => rw [ra.non]; rfl
  | bl b => rw [ra.bl]; rfl
  | int i => rw [ra.int]; rfl
  | str l => rw [ra.str]; rfl
  | tup l => obtain ⟨p, vs, rfl, _⟩ := ra.tup; rfl
  | lst l => obtain ⟨p, vs, rfl, _⟩ := ra.lst; rfl
  | scr l => obtain ⟨p, rfl, _⟩ := ra.scr; rfl
  | exc c l =>
    have h := Rdd.of_rep rfl ra
    simp only [rep] at h
    obtain ⟨p, rfl⟩ := h
    rfl
  | lck l =>
    have h := Rdd.of_rep rfl ra
    simp only [rep] at h
    obtain ⟨p, z, xs, rfl, _⟩ := h
    rfl
  | dct l =>
    unfold Rdd at ra
    rw [if_pos (show cellD (.dct l) = true from rfl)] at ra
    obtain ⟨p, o, rfl, _⟩ := ra; rfl
  | obj c l =>
    unfold Rdd at ra
    rw [if_pos (show cellD (.obj c l) = true from rfl)] at ra
    obtain ⟨p, o, rfl, _⟩ := ra; rfl
theorem f_isN : OpF K mg dIsN (fun x y H Q => y = .non ∧ Q (.bl (decide (x = .non))) H) .fz := by
  intro H F v w a b d Q s ra rb hf q
  unfold dIsN at hf
  split at hf <;> cases hf
  rename_i h
  cases b <;> first | (cases h; done) | skip
  exact ⟨rb.non, by rw [rdd_isN ra]; exact q _ H F (Grow.refl s) (.atom rfl rfl)⟩
theorem f_notN : OpF K mg dNotN (fun x y H Q => y = .non ∧ Q (.bl (!decide (x = .non))) H) .fz := by
  intro H F v w a b d Q s ra rb hf q
  unfold dNotN at hf
  split at hf <;> cases hf
  rename_i h
  cases b <;> first | (cases h; done) | skip
  exact ⟨rb.non, by rw [rdd_isN ra]; exact q _ H F (Grow.refl s) (.atom rfl rfl)⟩

/-! ### subscripts -/
def dIx : D → D → Option D
  | .lst l, .int i => atI l i
  | .tup l, .int i => atI l i
  | .str l, .int i => if l.length ≤ 16777216 then (atI l i).map fun c => .str [c] else none
  | _, _ => none
theorem atI_reps {l : List D} {vs : List V} {F : Hp} {i : Int} {d : D} (r : reps K mg F l vs) (h : atI l i = some d) : ∃ v, atI vs i = some v ∧ rep K mg F d v := by
  unfold atI at h ⊢
  rw [reps_length r]
  cases hi : ixN l.length i with
  | none => rw [hi] at h; cases h
  | some j =>
    rw [hi] at h
    exact reps_get r h
theorem f_ix : OpF K mg dIx (rIx K) .fz := by
  intro H F v w a b d Q s ra rb hf q
  unfold dIx at hf
  split at hf
  · obtain ⟨p, vs, rfl, h1, h2⟩ := ra.lst
    obtain ⟨x, h3, h4⟩ := atI_reps h2 hf
    exact .inl ⟨p, vs, _, x, rfl, rb.int, .of h1, h3, q _ H F (Grow.refl s) h4⟩
  · obtain ⟨p, vs, rfl, h1, h2⟩ := ra.tup
    obtain ⟨x, h3, h4⟩ := atI_reps h2 hf
    exact .inr (.inl ⟨p, vs, _, x, rfl, rb.int, Same.sqT s h1, h3, q _ H F (Grow.refl s) h4⟩)
  · rename_i l i
    split at hf
    · rename_i hl
      cases hc : atI l i with
      | none => rw [hc] at hf; cases hf
      | some c =>
        rw [hc] at hf; cases hf
        exact .inr (.inr ⟨_, i, c, ra.str, rb.int, by rw [sizeLine_eq]; simpa [Str.length] using hl, by simpa using hc, q _ H F (Grow.refl s) (by simp only [NewOk, rep])⟩)
    · cases hf
  · cases hf
end
end VL

set_option Elab.async false
set_option linter.all false
set_option maxRecDepth 100000
/-! VL4: slices, tests, arguments, built-in calls, displays. -/
namespace VL
open PySem PySem.Spec PyProof.Rows L2

/-! ### slices -/
def cutA {α : Type} (l : List α) (lo hi : Option Int) : List α := (l.drop (HT.sIx l.length 0 lo)).take (HT.sIx l.length l.length hi - HT.sIx l.length 0 lo)
def dSlice : D → Option Int → Option Int → Option D
  | .lst l, lo, hi => some (.lst (cutA l lo hi))
  | .tup l, lo, hi => some (.tup (cutA l lo hi))
  | .str l, lo, hi => if l.length ≤ 16777216 then some (.str (cutA l lo hi)) else none
  | _, _, _ => none
def runI : Option Ev → Env → Res (Option Int × Env)
  | none, ρ => .ok (none, ρ)
  | some f, ρ => (f ρ).bind fun r => match r.1 with
    | .int i => .ok (some i, r.2)
    | _ => .bad
def eSl (oa : Opd) (lo hi : Option Ev) : Ev := fun ρ => (oa.run ρ).bind fun p => (runI lo p.2).bind fun q => (runI hi q.2).bind fun r => (oa.fin p.1 r.2).bind fun da => (opt (dSlice da q.1 r.1)).bind fun d => .ok (d, r.2)
section
variable (X : Cx) (Γ Γ' : Gm) (W : WE)
def trO (f : Option Ev) : TO := fun σ H Q => ∃ ρ F, Rel X.K X.mg Γ ρ σ H F ∧ (runI f ρ).sat
  (fun r => ∀ H' F', Evo (Own Γ ρ σ) H F (Own Γ' r.2 σ) H' F' → Rel X.K X.mg Γ' r.2 σ H' F' → Q r.1 H') (exW W Γ ρ σ H F)
abbrev VPO (e : Option Expr) (f : Option Ev) : Prop := PO X e (trO X Γ Γ' W f)
end
theorem fin_sat {α : Type} {o : Opd} {od : Option D} {ρ : Env} {f : D → Res α} {P : α → Prop} {E : Exn → Prop} (h : ((o.fin od ρ).bind f).sat P E) : ∃ d, o.fin od ρ = .ok d ∧ (f d).sat P E := by
  cases hf : o.fin od ρ with
  | ok d => rw [hf] at h; exact ⟨d, rfl, h⟩
  | bad => rw [hf] at h; exact h.elim
  | exn x =>
    exfalso
    cases o with
    | slot i =>
      rcases gv_cases ρ i with ⟨d, e, _⟩ | e
      · have hf : gv ρ i = .exn x := hf
        rw [e] at hf; cases hf
      · have hf : gv ρ i = .exn x := hf
        rw [e] at hf; cases hf
    | ex f => cases od <;> cases hf
section
variable {X : Cx} {Γ Γ' Γ1 Γ2 Γ3 : Gm} {W : WE} {e a b c : Expr} {pos p2 : Pos} {m : Md} {ev : Ev} {et : Et} {oa ob : Opd} {lo hi : Option Expr} {fl fh : Option Ev}
theorem poImp {e : Option Expr} {t t' : TO} (h : PO X e t) (i : ∀ σ H Q, t' σ H Q → t σ H Q) : PO X e t' := ⟨fun pins s σ H Q I q => h.run pins s σ H Q I (i σ H Q q)⟩
theorem vpo_none : VPO X Γ Γ W none none := poImp po_none fun σ H Q ⟨ρ, F, r, q⟩ => q H F (Evo.refl r.sub) r
theorem vpo_some (h : VE X Γ Γ' W e .fz ev) : VPO X Γ Γ' W (some e) (some ev) := poImp (po_some h) fun σ H Q ⟨ρ, F, r, q⟩ =>
  ⟨ρ, F, r, Res.sat_imp (Res.sat_bind.mp q) (fun z _ q v H' F' e1 r1 vo => by
    cases hz : z.1 <;> rw [hz] at q <;> first | exact q.elim | skip
    rename_i i
    rw [hz] at vo
    exact ⟨i, vo, q H' F' e1 r1⟩) fun _ h => h⟩
def rSlAll (K : PySem.W.Frag) : V → Option Int → Option Int → Hp → VK → Prop := fun x lo hi H Q => rSlL K x lo hi H Q ∨ (rSlA K x lo hi H Q ∨ rSlS x lo hi H Q)
theorem sl_all : SlR X (rSlAll X.K) := sl_list.or (sl_tupA.or sl_str)
theorem reps_cut {K : PySem.W.Frag} {mg : Str → Option Value} {F : Hp} {l : List D} {vs : List V} (lo hi : Option Int) (h : reps K mg F l vs) : reps K mg F (cutA l lo hi) (cutV vs lo hi) := by
  unfold cutA cutV
  rw [reps_length h]
  exact reps_take _ (reps_drop _ h)
theorem ve_slice (ha : VB X Γ Γ1 W a oa) (hl : VPO X Γ1 Γ2 W lo fl) (hh : VPO X Γ2 Γ3 W hi fh) : VE X Γ Γ3 W (.Subscript a (.Slice lo hi none p2) pos) .own (eSl oa fl fh) :=
  peImp (pe_slice sl_all ha hl hh) fun σ H Q ⟨ρ, F, r, q⟩ =>
    ⟨ρ, F, r, Res.sat_imp (Res.sat_bind.mp q) (fun p _ q v H1 F1 e1 r1 b1 => ⟨p.2, F1, r1, Res.sat_imp (Res.sat_bind.mp q) (fun z _ q H2 F2 e2 r2 => ⟨z.2, F2, r2, Res.sat_imp (Res.sat_bind.mp q) (fun w _ q H3 F3 e3 r3 => by
      obtain ⟨da, hda, q⟩ := fin_sat q
      obtain ⟨d, hd, q⟩ := opt_sat (Res.sat_bind.mp q)
      have rd := b1.fin r3 (e2.trans e3) hda
      have ev := e1.trans (e2.trans e3)
      have fin : ∀ (u : V) (H' F' : Hp), Grow H3 F3 H' F' → NewOk X.K X.mg .own H3 H' F' u d → Q u H' := fun u H' F' g n =>
        q u H' F' (ev.trans g.evo) (r3.grow g) (by
          have n' := n.val r3
          exact ⟨n'.1, fun c p e => ⟨ev.dom p (n'.2 c p e).1, (n'.2 c p e).2⟩⟩)
      unfold dSlice at hd
      cases da <;> first | (cases hd; done) | skip
      · rename_i l
        dsimp only at hd
        split at hd <;> cases hd
        rename_i hl
        refine .inr (.inr ⟨_, rd.str, by rw [sizeLine_eq]; simpa [Str.length] using hl, ?_⟩)
        have : cutS ⟨l.toArray⟩ z.1 w.1 = ⟨(cutA l z.1 w.1).toArray⟩ := by
          unfold cutS cutA
          simp [Str.length]
        rw [this]
        exact fin _ H3 F3 (Grow.refl r3.sub) (.atom rfl (by simp only [rep]))
      · rename_i l
        cases hd
        obtain ⟨p, vs, rfl, h1, h2⟩ := rd.tup
        refine .inr (.inl ⟨p, vs, rfl, Same.sqT r3.sub h1, fun hw => ?_, fun hw n hn => ?_⟩)
        · refine fin _ H3 F3 (Grow.refl r3.sub) (.atom rfl ?_)
          have : cutA l z.1 w.1 = l := by
            unfold cutA
            rw [← reps_length h2, hw.1, hw.2]
            simp [reps_length h2]
          rw [this]
          simp only [rep]
          exact ⟨p, vs, rfl, h1, h2⟩
        · exact fin _ _ _ (Grow.newF r3.sub hn) (.atom rfl (rep_tup_new hn r3.sub (reps_cut _ _ h2)))
      · rename_i l
        cases hd
        obtain ⟨p, vs, rfl, h1, h2⟩ := rd.lst
        exact .inl ⟨p, vs, rfl, .of h1, fun n hn => fin _ _ F3 (Grow.newO r3.sub hn) (.newL hn r3.sub (reps_cut _ _ h2))⟩) fun _ h => (h.evo e1).evo e2⟩) fun _ h => h.evo e1⟩) fun _ h => h⟩
end

/-! ### tests -/
def eTB (ev : Ev) : Et := fun ρ => (ev ρ).bind fun r => match r.1 with
  | .bl b => .ok (b, r.2)
  | _ => .bad
def truD : D → Option Bool
  | .non => some false
  | .bl b => some b
  | .int i => some (i != 0)
  | .str l => if l.length ≤ 16777216 then some (!l.isEmpty) else none
  | .lst l => some (!l.isEmpty)
  | .tup l => some (!l.isEmpty)
  | _ => none
def eTru (o : Opd) : Et := fun ρ => (o.run ρ).bind fun p => (o.fin p.1 p.2).bind fun d => (opt (truD d)).bind fun b => .ok (b, p.2)
def eAnd (a b : Et) : Et := fun ρ => (a ρ).bind fun r => if r.1 = true then b r.2 else .ok (false, r.2)
def eOr (a b : Et) : Et := fun ρ => (a ρ).bind fun r => if r.1 = true then .ok (true, r.2) else b r.2
def eNot (a : Et) : Et := fun ρ => (a ρ).bind fun r => .ok (!r.1, r.2)
section
variable {X : Cx} {Γ Γ' Γ1 Γ2 Γ3 : Gm} {W : WE} {e a b c : Expr} {pos p2 : Pos} {m : Md} {ev eva evb : Ev} {et eta etb : Et} {oa ob : Opd} {rest : List Expr}
theorem trT_of {σ : St} {H : Hp} {Q : Bool → Hp → Prop} (h : trT X Γ Γ' W (eTB ev) σ H Q) : trE X Γ Γ' W .fz ev σ H fun x H' => ∃ k, x = .bl k ∧ Q k H' := by
  obtain ⟨ρ, F, r, q⟩ := h
  refine ⟨ρ, F, r, Res.sat_imp (Res.sat_bind.mp q) (fun z _ q v H' F' e1 r1 vo => ?_) fun _ h => h⟩
  cases hz : z.1 <;> rw [hz] at q <;> first | exact q.elim | skip
  rename_i k
  rw [hz] at vo
  exact ⟨k, vo, q H' F' e1 r1⟩
theorem vt_cmp {op : CmpOp} {r : R2} {f : D → D → Option D} (ho : OpR X (compareOp op) r) (hf : OpF X.K X.mg f r .fz) (ha : VB X Γ Γ1 W a oa) (hb : VB X Γ1 Γ2 W b ob) (hm : behindInMarks op b = false) : VT X Γ Γ2 W (.Compare a [op] [b] pos) (eTB (eBin f oa ob)) :=
  ptImp (pt_cmpR ho ha hb hm) fun _ _ _ h => ve_two hf (trT_of h)
theorem vt_val (h : VE X Γ Γ' W e .fz ev) (he : ∀ whole, isTrue e X.env whole = (do let v ← whole; standAt e.pos; holding [v] (truthy v)) := by intro _; rfl) : VT X Γ Γ' W e (eTB ev) :=
  ptImp (pt_val h he) fun _ _ _ h => trT_of h
theorem rdd_tru {K : PySem.W.Frag} {mg : Str → Option Value} {H F : Hp} {v : V} {d : D} {k : Bool} (s : Same F H) (r : Rdd K mg H F v d) (h : truD d = some k) : TruV K v H k := by
  cases d <;> simp only [truD] at h <;> first | (cases h; done) | skip
  · rw [r.non]; cases h; rfl
  · rw [r.bl]; cases h; rfl
  · rw [r.int]; cases h; rfl
  · rename_i l
    rw [r.str]
    split at h <;> cases h
    rename_i hl
    refine ⟨by rw [sizeLine_eq]; simpa [Str.length] using hl, ?_⟩
    cases l <;> simp [Str.length]
    omega
  · rename_i l
    obtain ⟨p, vs, rfl, h1, h2⟩ := r.tup
    cases h
    refine .inr (.inl ⟨vs, Same.sqT s h1, ?_⟩)
    have := reps_length h2
    cases l <;> cases vs <;> simp_all
  · rename_i l
    obtain ⟨p, vs, rfl, h1, h2⟩ := r.lst
    cases h
    refine .inl ⟨vs, .of h1, ?_⟩
    have := reps_length h2
    cases l <;> cases vs <;> simp_all
theorem vt_tru (h : VB X Γ Γ' W e oa) (he : ∀ whole, isTrue e X.env whole = (do let v ← whole; standAt e.pos; holding [v] (truthy v)) := by intro _; rfl) : VT X Γ Γ' W e (eTru oa) :=
  ptImp (pt_truth h he) fun σ H Q ⟨ρ, F, r, q⟩ => ⟨ρ, F, r, Res.sat_imp (Res.sat_bind.mp q) (fun z _ q v H' F' e1 r1 b1 => by
    obtain ⟨d, hd, q⟩ := fin_sat q
    obtain ⟨k, hk, q⟩ := opt_sat (Res.sat_bind.mp q)
    exact ⟨k, rdd_tru r1.sub (b1.fin r1 (Evo.refl r1.sub) hd) hk, q H' F' e1 r1⟩) fun _ h => h⟩
/-- a chain of and, or -/
abbrev VW (X : Cx) (Γ Γ' : Gm) (W : WE) (e : Expr) (ev : Et) : Prop := PW X e (trT X Γ Γ' W ev)
theorem pwImp {t t' : TT} (h : PW X e t) (i : ∀ σ H Q, t' σ H Q → t σ H Q) : PW X e t' := ⟨fun wh pins s σ H Q I q => h.run wh pins s σ H Q I (i σ H Q q)⟩
theorem vw_and1 (h : VT X Γ Γ' W a et) : VW X Γ Γ' W (.BoolOp .And [a] pos) et := pw_and1 h
theorem vw_or1 (h : VT X Γ Γ' W a et) : VW X Γ Γ' W (.BoolOp .Or [a] pos) et := pw_or1 h
theorem vw_and (ha : VT X Γ Γ W a eta) (hb : VW X Γ Γ W (.BoolOp .And (b :: rest) pos) etb) : VW X Γ Γ W (.BoolOp .And (a :: b :: rest) pos) (eAnd eta etb) :=
  pwImp (pw_and ha hb) fun σ H Q ⟨ρ, F, r, q⟩ => ⟨ρ, F, r, Res.sat_imp (Res.sat_bind.mp q) (fun z _ q H' F' e1 r1 => by
    dsimp only
    split
    · rename_i hz
      rw [if_pos hz] at q
      exact ⟨z.2, F', r1, Res.sat_imp q (fun w _ q H2 F2 e2 r2 => q H2 F2 (e1.trans e2) r2) fun _ h => h.evo e1⟩
    · rename_i hz
      rw [if_neg hz] at q
      exact q H' F' e1 r1) fun _ h => h⟩
theorem vw_or (ha : VT X Γ Γ W a eta) (hb : VW X Γ Γ W (.BoolOp .Or (b :: rest) pos) etb) : VW X Γ Γ W (.BoolOp .Or (a :: b :: rest) pos) (eOr eta etb) :=
  pwImp (pw_or ha hb) fun σ H Q ⟨ρ, F, r, q⟩ => ⟨ρ, F, r, Res.sat_imp (Res.sat_bind.mp q) (fun z _ q H' F' e1 r1 => by
    dsimp only
    split
    · rename_i hz
      rw [if_pos hz] at q
      exact q H' F' e1 r1
    · rename_i hz
      rw [if_neg hz] at q
      exact ⟨z.2, F', r1, Res.sat_imp q (fun w _ q H2 F2 e2 r2 => q H2 F2 (e1.trans e2) r2) fun _ h => h.evo e1⟩) fun _ h => h⟩
theorem vt_bool (h : VW X Γ Γ' W e et) : VT X Γ Γ' W e et := h.pt
theorem vt_not (h : VT X Γ Γ' W a et) : VT X Γ Γ' W (.UnaryOp .Not a pos) (eNot et) :=
  ptImp (pt_not h) fun σ H Q ⟨ρ, F, r, q⟩ => ⟨ρ, F, r, Res.sat_imp (Res.sat_bind.mp q) (fun z _ q H' F' e1 r1 => q H' F' e1 r1) fun _ h => h⟩
/-- and, or, not as values (bools) -/
def eAndV (a b : Ev) : Ev := fun ρ => (a ρ).bind fun r => match r.1 with
  | .bl true => b r.2
  | .bl false => .ok (.bl false, r.2)
  | _ => .bad
def eOrV (a b : Ev) : Ev := fun ρ => (a ρ).bind fun r => match r.1 with
  | .bl true => .ok (.bl true, r.2)
  | .bl false => b r.2
  | _ => .bad
def eNotV (a : Ev) : Ev := fun ρ => (a ρ).bind fun r => match r.1 with
  | .bl b => .ok (.bl (!b), r.2)
  | _ => .bad
theorem ve_one {op} (h : VE X Γ Γ' W a m ev) : VE X Γ Γ' W (.BoolOp op [a] pos) m ev := pe_one h
theorem ve_and (ha : VE X Γ Γ W a .fz eva) (hb : VE X Γ Γ W (.BoolOp .And (b :: rest) pos) .fz evb) : VE X Γ Γ W (.BoolOp .And (a :: b :: rest) pos) .fz (eAndV eva evb) :=
  peImp (pe_and ha hb) fun σ H Q ⟨ρ, F, r, q⟩ => ⟨ρ, F, r, Res.sat_imp (Res.sat_bind.mp q) (fun z _ q v H' F' e1 r1 vo => by
    cases hz : z.1 <;> rw [hz] at q <;> first | exact q.elim | skip
    rename_i k
    rw [hz] at vo
    refine ⟨k, vo, ?_⟩
    cases k with
    | true => exact ⟨z.2, F', r1, Res.sat_imp q (fun w _ q v2 H2 F2 e2 r2 v3 => q v2 H2 F2 (e1.trans e2) r2 v3) fun _ h => h.evo e1⟩
    | false => exact q _ H' F' e1 r1 rfl) fun _ h => h⟩
theorem ve_or (ha : VE X Γ Γ W a .fz eva) (hb : VE X Γ Γ W (.BoolOp .Or (b :: rest) pos) .fz evb) : VE X Γ Γ W (.BoolOp .Or (a :: b :: rest) pos) .fz (eOrV eva evb) :=
  peImp (pe_or ha hb) fun σ H Q ⟨ρ, F, r, q⟩ => ⟨ρ, F, r, Res.sat_imp (Res.sat_bind.mp q) (fun z _ q v H' F' e1 r1 vo => by
    cases hz : z.1 <;> rw [hz] at q <;> first | exact q.elim | skip
    rename_i k
    rw [hz] at vo
    refine ⟨k, vo, ?_⟩
    cases k with
    | false => exact ⟨z.2, F', r1, Res.sat_imp q (fun w _ q v2 H2 F2 e2 r2 v3 => q v2 H2 F2 (e1.trans e2) r2 v3) fun _ h => h.evo e1⟩
    | true => exact q _ H' F' e1 r1 rfl) fun _ h => h⟩
theorem ve_not (h : VE X Γ Γ' W a .fz ev) : VE X Γ Γ' W (.UnaryOp .Not a pos) .fz (eNotV ev) :=
  peImp (pe_not h) fun σ H Q ⟨ρ, F, r, q⟩ => ⟨ρ, F, r, Res.sat_imp (Res.sat_bind.mp q) (fun z _ q v H' F' e1 r1 vo => by
    cases hz : z.1 <;> rw [hz] at q <;> first | exact q.elim | skip
    rename_i k
    rw [hz] at vo
    exact ⟨k, vo, q _ H' F' e1 r1 rfl⟩) fun _ h => h⟩
/-- not e by truth -/
def eNotT (o : Opd) : Ev := fun ρ => (o.run ρ).bind fun p => (o.fin p.1 p.2).bind fun d => (opt (truD d)).bind fun b => .ok (.bl (!b), p.2)
theorem ve_notT (h : VB X Γ Γ' W a oa) : VE X Γ Γ' W (.UnaryOp .Not a pos) .fz (eNotT oa) :=
  peImp (pe_notT h) fun σ H Q ⟨ρ, F, r, q⟩ => ⟨ρ, F, r, Res.sat_imp (Res.sat_bind.mp q) (fun z _ q v H' F' e1 r1 b1 => by
    obtain ⟨d, hd, q⟩ := fin_sat q
    obtain ⟨k, hk, q⟩ := opt_sat (Res.sat_bind.mp q)
    exact ⟨k, rdd_tru r1.sub (b1.fin r1 (Evo.refl r1.sub) hd) hk, q _ H' F' e1 r1 rfl⟩) fun _ h => h⟩
/-- unary minus -/
def eNeg (a : Ev) : Ev := fun ρ => (a ρ).bind fun r => match r.1 with
  | .int i => .ok (.int (-i), r.2)
  | _ => .bad
theorem ve_neg (h : VE X Γ Γ' W a .fz ev) : VE X Γ Γ' W (.UnaryOp .USub a pos) .fz (eNeg ev) :=
  peImp (pe_un un_neg h) fun σ H Q ⟨ρ, F, r, q⟩ => ⟨ρ, F, r, Res.sat_imp (Res.sat_bind.mp q) (fun z _ q v H' F' e1 r1 vo => by
    cases hz : z.1 <;> rw [hz] at q <;> first | exact q.elim | skip
    rename_i k
    rw [hz] at vo
    exact ⟨k, vo, q _ H' F' e1 r1 rfl⟩) fun _ h => h⟩
def eIf (t : Et) (a b : Ev) : Ev := fun ρ => (t ρ).bind fun r => if r.1 = true then a r.2 else b r.2
theorem ve_ifExp (hc : VT X Γ Γ1 W c et) (ha : VE X Γ1 Γ2 W a m eva) (hb : VE X Γ1 Γ2 W b m evb) : VE X Γ Γ2 W (.IfExp c a b pos) m (eIf et eva evb) :=
  peImp (pe_ifExp hc ha hb) fun σ H Q ⟨ρ, F, r, q⟩ => ⟨ρ, F, r, Res.sat_imp (Res.sat_bind.mp q) (fun z _ q H' F' e1 r1 => by
    have go : ∀ {ev : Ev}, (ev z.2).sat (fun r => ∀ v H' F', Evo (Own Γ ρ σ) H F (Own Γ2 r.2 σ) H' F' → Rel X.K X.mg Γ2 r.2 σ H' F' → ValOk X.K X.mg m (Own Γ2 r.2 σ) H H' F' v r.1 → Q v H') (exW W Γ ρ σ H F) → trE X Γ1 Γ2 W m ev σ H' Q := fun q =>
      ⟨z.2, F', r1, Res.sat_imp q (fun w _ q v2 H2 F2 e2 r2 v3 => q v2 H2 F2 (e1.trans e2) r2 (by
        cases m <;> first | exact v3 | skip
        exact ⟨v3.1, fun c p e => ⟨e1.dom p (v3.2 c p e).1, (v3.2 c p e).2⟩⟩)) fun _ h => h.evo e1⟩
    dsimp only
    split
    · rename_i hz
      rw [if_pos hz] at q
      exact go q
    · rename_i hz
      rw [if_neg hz] at q
      exact go q) fun _ h => h⟩
end
end VL

set_option Elab.async false
set_option linter.all false
set_option maxRecDepth 100000
/-! VL5: arguments, built-in calls, displays. -/
namespace VL
open PySem PySem.Spec PyProof.Rows L2

inductive Arg where
  | bor (o : Opd) | val (f : Ev) | io (i : Nat)
def Arg.run : Arg → Env → Res (Option D × Env)
  | .bor o, ρ => o.run ρ
  | .val f, ρ => (f ρ).bind fun r => .ok (some r.1, r.2)
  | .io i, ρ => (gv ρ i).bind fun _ => .ok (none, ρ)
def Arg.fin : Arg → Option D → Env → Res D
  | .bor o, od, ρ => o.fin od ρ
  | .val _, od, _ => opt od
  | .io i, _, ρ => gv ρ i
def Arg.runs : List Arg → Env → Res (List (Option D) × Env)
  | [], ρ => .ok ([], ρ)
  | a :: as, ρ => (a.run ρ).bind fun p => (Arg.runs as p.2).bind fun q => .ok (p.1 :: q.1, q.2)
def Arg.fins : List Arg → List (Option D) → Env → Res (List D)
  | [], _, _ => .ok []
  | a :: as, od :: ods, ρ => (a.fin od ρ).bind fun d => (Arg.fins as ods ρ).bind fun ds => .ok (d :: ds)
  | _ :: _, [], _ => .bad

section
variable (K : PySem.W.Frag) (mg : Str → Option Value)
/-- what an argument's value bears until the call -/
def AOk (a : Arg) (od : Option D) (O : Ft) (σ : St) (H F : Hp) (v : V) : Prop :=
  match a with
  | .bor o => BOk K mg o od O σ H F v
  | .val _ => ∃ d, od = some d ∧ rep K mg F d v
  | .io i => σ[i]? = some (some v)
def AOks : List Arg → List (Option D) → Ft → St → Hp → Hp → List V → Prop
  | [], ods, _, _, _, _, vs => ods = [] ∧ vs = []
  | a :: as, ods, O, σ, H, F, vs => ∃ od r v w, ods = od :: r ∧ vs = v :: w ∧ AOk K mg a od O σ H F v ∧ AOks as r O σ H F w
/-- what it bears at the call -/
def AF (a : Arg) (O : Ft) (σ : St) (H F : Hp) (v : V) (d : D) : Prop :=
  match a with
  | .bor (.ex _) => RdN K mg O H F v d
  | .bor (.slot i) => Rdd K mg H F v d ∧ σ[i]? = some (some v)
  | .val _ => rep K mg F d v
  | .io i => Rdd K mg H F v d ∧ σ[i]? = some (some v)
def AFs : List Arg → Ft → St → Hp → Hp → List V → List D → Prop
  | [], _, _, _, _, vs, ds => vs = [] ∧ ds = []
  | a :: as, O, σ, H, F, vs, ds => ∃ v w d e, vs = v :: w ∧ ds = d :: e ∧ AF K mg a O σ H F v d ∧ AFs as O σ H F w e
end
section
variable (X : Cx) (Γ Γ' : Gm) (W : WE)
def trArg (a : Arg) : TE := fun σ H Q => ∃ ρ F, Rel X.K X.mg Γ ρ σ H F ∧ (a.run ρ).sat
  (fun r => ∀ v H' F', Evo (Own Γ ρ σ) H F (Own Γ' r.2 σ) H' F' → Rel X.K X.mg Γ' r.2 σ H' F' → AOk X.K X.mg a r.1 (Own Γ' r.2 σ) σ H' F' v → Q v H') (exW W Γ ρ σ H F)
abbrev VAr (e : Expr) (a : Arg) : Prop := PE X e (trArg X Γ Γ' W a)
def trA (as : List Arg) : TA := fun σ H Q => ∃ ρ F, Rel X.K X.mg Γ ρ σ H F ∧ (Arg.runs as ρ).sat
  (fun r => ∀ vs H' F', Evo (Own Γ ρ σ) H F (Own Γ' r.2 σ) H' F' → Rel X.K X.mg Γ' r.2 σ H' F' → AOks X.K X.mg as r.1 (Own Γ' r.2 σ) σ H' F' vs → Q vs H') (exW W Γ ρ σ H F)
abbrev VA (es : List Expr) (as : List Arg) : Prop := PA X es (trA X Γ Γ' W as)
end
section
variable {K : PySem.W.Frag} {mg : Str → Option Value} {O O' : Ft} {H F H' F' H2 F2 : Hp} {v : V} {d : D} {Γ Γ' Γ2 : Gm} {ρ ρ' ρ2 : Env} {σ : St} {a : Arg} {od : Option D}
theorem AOk.evo (h : AOk K mg a od O σ H F v) (e : Evo O H F O' H' F') : AOk K mg a od O' σ H' F' v := by
  cases a with
  | bor o =>
    cases o with
    | slot i => exact h
    | ex f => cases od with
      | none => exact h
      | some d => exact RdN.evo h e
  | val f => obtain ⟨d, e1, h⟩ := h; exact ⟨d, e1, rep_mono e.sf h⟩
  | io i => exact h
theorem AOk.fin (r : Rel K mg Γ ρ σ H F) (h : AOk K mg a od O σ H F v) (ho : O = Own Γ ρ σ) (hf : a.fin od ρ = .ok d) : AF K mg a O σ H F v d := by
  cases a with
  | bor o =>
    cases o with
    | slot i =>
      obtain ⟨w, h1, h2⟩ := r.rdd (gv_ok hf)
      have h : σ[i]? = some (some v) := h
      rw [h] at h1; cases h1
      exact ⟨h2, h⟩
    | ex f => cases od with
      | none => exact h.elim
      | some d' =>
        have hf : Res.ok d' = Res.ok d := hf
        cases hf
        exact h
  | val f =>
    obtain ⟨d', rfl, h⟩ := h
    have hf : Res.ok d' = Res.ok d := hf
    cases hf
    exact h
  | io i =>
    obtain ⟨w, h1, h2⟩ := r.rdd (gv_ok hf)
    have h : σ[i]? = some (some v) := h
    rw [h] at h1; cases h1
    exact ⟨h2, h⟩
theorem Arg.fin_exn {x : Exn} (h : a.fin od ρ = .exn x) : False := by
  have g : ∀ i, gv ρ i = .exn x → False := fun i h => by
    rcases gv_cases ρ i with ⟨d, e, _⟩ | e <;> rw [e] at h <;> cases h
  cases a with
  | bor o =>
    cases o with
    | slot i => exact g i h
    | ex f => cases od <;> cases h
  | val f => cases od <;> cases h
  | io i => exact g i h
theorem Arg.fins_exn {x : Exn} : ∀ {as : List Arg} {ods : List (Option D)}, Arg.fins as ods ρ = .exn x → False
  | [], _, h => by cases h
  | a :: as, [], h => by cases h
  | a :: as, od :: ods, h => by
    unfold Arg.fins at h
    cases h1 : a.fin od ρ with
    | exn x => exact Arg.fin_exn h1
    | bad => rw [h1] at h; cases h
    | ok d =>
      rw [h1] at h
      cases h2 : Arg.fins as ods ρ with
      | exn x => exact Arg.fins_exn h2
      | bad => simp only [Res.bind_ok, h2, Res.bind_bad] at h; cases h
      | ok ds => simp only [Res.bind_ok, h2] at h; cases h
theorem AOks.evo : ∀ {as : List Arg} {ods : List (Option D)} {vs : List V}, AOks K mg as ods O σ H F vs → Evo O H F O' H' F' → AOks K mg as ods O' σ H' F' vs
  | [], _, _, h, _ => h
  | a :: as, _, _, ⟨od, r, v, w, e1, e2, h1, h2⟩, e => ⟨od, r, v, w, e1, e2, h1.evo e, h2.evo e⟩
theorem AOks.fin (r : Rel K mg Γ ρ σ H F) : ∀ {as : List Arg} {ods : List (Option D)} {vs : List V} {ds : List D}, AOks K mg as ods (Own Γ ρ σ) σ H F vs → Arg.fins as ods ρ = .ok ds → AFs K mg as (Own Γ ρ σ) σ H F vs ds
  | [], _, _, _, h, hf => by cases hf; exact ⟨h.2, rfl⟩
  | a :: as, _, _, ds, ⟨od, q, v, w, e1, e2, h1, h2⟩, hf => by
    subst e1
    unfold Arg.fins at hf
    cases k1 : a.fin od ρ with
    | exn x => exact (Arg.fin_exn k1).elim
    | bad => rw [k1] at hf; cases hf
    | ok d =>
      rw [k1] at hf
      cases k2 : Arg.fins as q ρ with
      | exn x => exact (Arg.fins_exn k2).elim
      | bad => simp only [Res.bind_ok, k2, Res.bind_bad] at hf; cases hf
      | ok es =>
        simp only [Res.bind_ok, k2] at hf
        cases hf
        exact ⟨v, w, d, es, e2, rfl, h1.fin r rfl k1, h2.fin r k2⟩
end
theorem fins_sat {α : Type} {as : List Arg} {ods : List (Option D)} {ρ : Env} {f : List D → Res α} {P : α → Prop} {E : Exn → Prop} (h : ((Arg.fins as ods ρ).bind f).sat P E) : ∃ ds, Arg.fins as ods ρ = .ok ds ∧ (f ds).sat P E := by
  cases hf : Arg.fins as ods ρ with
  | ok d => rw [hf] at h; exact ⟨d, rfl, h⟩
  | bad => rw [hf] at h; exact h.elim
  | exn x => exact (Arg.fins_exn hf).elim
section
variable {X : Cx} {Γ Γ' Γ1 Γ2 Γ3 : Gm} {W : WE} {e a b c : Expr} {es : List Expr} {pos p2 p : Pos} {m : Md} {ev eva evb : Ev} {et eta etb : Et} {oa ob : Opd} {ar : Arg} {as : List Arg}
theorem paImp {t t' : TA} (h : PA X es t) (i : ∀ σ H Q, t' σ H Q → t σ H Q) : PA X es t' := ⟨fun pos pins s σ H Q I q => h.run pos pins s σ H Q I (i σ H Q q)⟩
theorem va_bor (h : VB X Γ Γ' W e oa) : VAr X Γ Γ' W e (.bor oa) := h
theorem va_val (h : VE X Γ Γ' W e .fz ev) : VAr X Γ Γ' W e (.val ev) :=
  peImp h fun σ H Q ⟨ρ, F, r, q⟩ => ⟨ρ, F, r, Res.sat_imp (Res.sat_bind.mp q) (fun z _ q v H' F' e1 r1 vo => q v H' F' e1 r1 ⟨_, rfl, vo⟩) fun _ h => h⟩
theorem va_io {i : Nat} (h : PE X e (tVar i)) : VAr X Γ Γ W e (.io i) :=
  peImp h fun σ H Q ⟨ρ, F, r, q⟩ => by
    obtain ⟨d, e2, q⟩ := gv_sat (Res.sat_bind.mp q)
    obtain ⟨v, h1, h2⟩ := r.rdd e2
    exact ⟨v, h1, q v H F (Evo.refl r.sub) r h1⟩
theorem va_nil : VA X Γ Γ W [] [] := paImp pa_nil fun σ H Q ⟨ρ, F, r, q⟩ => q [] H F (Evo.refl r.sub) r ⟨rfl, rfl⟩
theorem va_cons (ha : VAr X Γ Γ1 W e ar) (hr : VA X Γ1 Γ2 W es as) (hs : starEach (e :: es) X.env = (false, eval e X.env) :: starEach es X.env := by rfl) : VA X Γ Γ2 W (e :: es) (ar :: as) :=
  paImp (pa_cons ha hr hs) fun σ H Q ⟨ρ, F, r, q⟩ => ⟨ρ, F, r, Res.sat_imp (Res.sat_bind.mp q) (fun z _ q v H1 F1 e1 r1 b1 => ⟨z.2, F1, r1, Res.sat_imp (Res.sat_bind.mp q) (fun w _ q vs H2 F2 e2 r2 b2 =>
    q (v :: vs) H2 F2 (e1.trans e2) r2 ⟨_, _, _, _, rfl, rfl, b1.evo e2, b2⟩) fun _ h => h.evo e1⟩) fun _ h => h⟩

/-! ### built-in calls -/
def Rdds (K : PySem.W.Frag) (mg : Str → Option Value) (H F : Hp) : List V → List D → Prop
  | vs, [] => vs = []
  | vs, d :: ds => ∃ v w, vs = v :: w ∧ Rdd K mg H F v d ∧ Rdds K mg H F w ds
theorem AF.rdd {K : PySem.W.Frag} {mg : Str → Option Value} {O : Ft} {σ : St} {H F : Hp} {v : V} {d : D} (s : Same F H) (h : AF K mg ar O σ H F v d) : Rdd K mg H F v d := by
  cases ar with
  | bor o => cases o with
    | slot i => exact h.1
    | ex f => exact RdN.rdd h
  | val f => exact rep.rdd s h
  | io i => exact h.1
theorem AFs.rdds {K : PySem.W.Frag} {mg : Str → Option Value} {O : Ft} {σ : St} {H F : Hp} (s : Same F H) : ∀ {as : List Arg} {vs : List V} {ds : List D}, AFs K mg as O σ H F vs ds → Rdds K mg H F vs ds
  | [], _, _, ⟨h1, h2⟩ => by subst h1 h2; rfl
  | a :: as, _, _, ⟨v, w, d, e, h1, h2, h3, h4⟩ => by subst h1 h2; exact ⟨v, w, rfl, h3.rdd s, h4.rdds s⟩
def eCall (f : List D → Option D) (as : List Arg) : Ev := fun ρ => (Arg.runs as ρ).bind fun p => (Arg.fins as p.1 p.2).bind fun ds => (opt (f ds)).bind fun d => .ok (d, p.2)
def CallF (K : PySem.W.Frag) (mg : Str → Option Value) (f : List D → Option D) (r : List V → Hp → VK → Prop) (m : Md) : Prop :=
  ∀ H F vs ds d Q, Same F H → Rdds K mg H F vs ds → f ds = some d → (∀ u H' F', Grow H F H' F' → NewOk K mg m H H' F' u d → Q u H') → r vs H Q
theorem call_tr {f : List D → Option D} {r : List V → Hp → VK → Prop} (hf : CallF X.K X.mg f r m) {σ : St} {H : Hp} {Q : VK} (h : trE X Γ Γ' W m (eCall f as) σ H Q) : trA X Γ Γ' W as σ H fun vs H1 => r vs H1 Q := by
  obtain ⟨ρ, F, rl, q⟩ := h
  refine ⟨ρ, F, rl, Res.sat_imp (Res.sat_bind.mp q) (fun z _ q vs H1 F1 e1 r1 b1 => ?_) fun _ h => h⟩
  obtain ⟨ds, hds, q⟩ := fins_sat q
  obtain ⟨d, hd, q⟩ := opt_sat (Res.sat_bind.mp q)
  exact hf H1 F1 vs ds d Q r1.sub ((b1.fin r1 hds).rdds r1.sub) hd fun u H3 F3 g n => q u H3 F3 (e1.trans g.evo) (r1.grow g) (by
    have n' := n.val r1
    cases m <;> first | exact n' | skip
    exact ⟨n'.1, fun c p e => ⟨e1.dom p (n'.2 c p e).1, (n'.2 c p e).2⟩⟩)
theorem ve_callB {id : String} {x : Str} {f : List D → Option D} {r : List V → Hp → VK → Prop} (hc : CallR X (.builtin id) r) (hf : CallF X.K X.mg f r m) (hg : Gl X x) (hm : X.mg x = none) (hv : bootBuiltins x = some (.builtin id)) (ha : VA X Γ Γ' W (e :: es) as) (hn : x ≠ "__name__" := by decide) (hdb : (x == ("__debug__" : Str)) = false := by decide)
    (he : starEach (e :: es) X.env = (false, eval e X.env) :: starEach es X.env := by rfl) (hpl : (backTo pos (starEach es X.env)).any (·.1) = false := by rfl) : VE X Γ Γ' W (.Call (.Name x p) (e :: es) [] pos) m (eCall f as) :=
  peImp (pe_callB hc hg hm hv ha hn hdb he hpl) fun _ _ _ h => call_tr hf h
theorem ve_callTy {T : String} {x : Str} {f : List D → Option D} {r : List V → Hp → VK → Prop} (hc : CallR X (.type T) r) (hf : CallF X.K X.mg f r m) (hg : Gl X x) (hm : X.mg x = none) (hv : bootBuiltins x = some (.type T)) (ha : VA X Γ Γ' W (e :: es) as) (hn : x ≠ "__name__" := by decide) (hdb : (x == ("__debug__" : Str)) = false := by decide)
    (he : starEach (e :: es) X.env = (false, eval e X.env) :: starEach es X.env := by rfl) (hpl : (backTo pos (starEach es X.env)).any (·.1) = false := by rfl) : VE X Γ Γ' W (.Call (.Name x p) (e :: es) [] pos) m (eCall f as) :=
  peImp (pe_callTy hc hg hm hv ha hn hdb he hpl) fun _ _ _ h => call_tr hf h

/-! ### displays: all elements are values -/
def eTup (as : List Arg) : Ev := eCall (fun ds => if ds.length ≤ 16777216 then some (.tup ds) else none) as
def eLst (as : List Arg) : Ev := eCall (fun ds => if ds.length ≤ 16777216 then some (.lst ds) else none) as
def allVal : List Arg → Bool
  | [] => true
  | .val _ :: r => allVal r
  | _ :: _ => false
theorem AFs.reps {K : PySem.W.Frag} {mg : Str → Option Value} {O : Ft} {σ : St} {H F : Hp} : ∀ {as : List Arg} {vs : List V} {ds : List D}, allVal as = true → AFs K mg as O σ H F vs ds → reps K mg F ds vs
  | [], _, _, _, ⟨h1, h2⟩ => by subst h1 h2; exact reps_nil
  | .val f :: as, _, _, ha, ⟨v, w, d, e, h1, h2, h3, h4⟩ => by subst h1 h2; exact reps_cons h3 (AFs.reps (show allVal as = true from ha) h4)
  | .bor _ :: _, _, _, ha, _ => by cases ha
  | .io _ :: _, _, _, ha, _ => by cases ha
theorem ve_tup {x1} (h : VA X Γ Γ' W es as) (hv : allVal as = true) : VE X Γ Γ' W (.Tuple es x1 pos) .fz (eTup as) :=
  peImp (pe_tup h) fun σ H Q ⟨ρ, F, rl, q⟩ => ⟨ρ, F, rl, Res.sat_imp (Res.sat_bind.mp q) (fun z _ q vs H1 F1 e1 r1 b1 => by
    obtain ⟨ds, hds, q⟩ := fins_sat q
    obtain ⟨d, hd, q⟩ := opt_sat (Res.sat_bind.mp q)
    have rr := (b1.fin r1 hds).reps hv
    dsimp only at hd
    split at hd <;> cases hd
    rename_i hl
    refine ⟨by rw [sizeLine_eq, reps_length rr]; exact hl, fun n hn => ?_⟩
    exact q _ _ _ (e1.trans (Grow.newF r1.sub hn).evo) (r1.grow (Grow.newF r1.sub hn)) (rep_tup_new hn r1.sub rr)) fun _ h => h⟩
theorem ve_lst (h : VA X Γ Γ' W es as) (hv : allVal as = true) : VE X Γ Γ' W (.List es pos) .own (eLst as) :=
  peImp (pe_lst h) fun σ H Q ⟨ρ, F, rl, q⟩ => ⟨ρ, F, rl, Res.sat_imp (Res.sat_bind.mp q) (fun z _ q vs H1 F1 e1 r1 b1 => by
    obtain ⟨ds, hds, q⟩ := fins_sat q
    obtain ⟨d, hd, q⟩ := opt_sat (Res.sat_bind.mp q)
    have rr := (b1.fin r1 hds).reps hv
    dsimp only at hd
    split at hd <;> cases hd
    rename_i hl
    refine ⟨by rw [sizeLine_eq, reps_length rr]; exact hl, fun n hn => ?_⟩
    have n' := (NewOk.newL hn r1.sub rr).val r1
    exact q _ _ _ (e1.trans (Grow.newO r1.sub hn).evo) (r1.grow (Grow.newO r1.sub hn)) ⟨n'.1, fun c p e => ⟨e1.dom p (n'.2 c p e).1, (n'.2 c p e).2⟩⟩) fun _ h => h⟩
end

/-! ### the built-ins by data -/
section
variable {X : Cx} {K : PySem.W.Frag} {mg : Str → Option Value}
def fLen : List D → Option D
  | [.lst l] => some (.int l.length)
  | [.tup l] => some (.int l.length)
  | [.str l] => if l.length ≤ 16777216 then some (.int l.length) else none
  | _ => none
theorem c_len : CallF K mg fLen (fun xs H Q => (∃ p ys, xs = [.ref p] ∧ (SqL K H p ys ∨ SqT K H p ys) ∧ Q (.int ys.length) H) ∨ ∃ z, xs = [.str z] ∧ z.length ≤ sizeLine ∧ Q (.int z.length) H) .fz := by
  intro H F vs ds d Q s r hf q
  unfold fLen at hf
  split at hf
  · cases hf
    obtain ⟨v, w, rfl, h1, rfl⟩ := r
    obtain ⟨p, vs, rfl, h2, h3⟩ := h1.lst
    exact .inl ⟨p, vs, rfl, .inl (.of h2), q _ H F (Grow.refl s) (.atom rfl (by simp only [rep, reps_length h3]))⟩
  · cases hf
    obtain ⟨v, w, rfl, h1, rfl⟩ := r
    obtain ⟨p, vs, rfl, h2, h3⟩ := h1.tup
    exact .inl ⟨p, vs, rfl, .inr (Same.sqT s h2), q _ H F (Grow.refl s) (.atom rfl (by simp only [rep, reps_length h3]))⟩
  · split at hf <;> cases hf
    rename_i l hl
    obtain ⟨v, w, rfl, h1, rfl⟩ := r
    rw [h1.str]
    exact .inr ⟨_, rfl, by rw [sizeLine_eq]; simpa [Str.length] using hl, q _ H F (Grow.refl s) (.atom rfl (by simp [rep, Str.length]))⟩
  · cases hf
theorem b_len : CallR X (.builtin "len") (fun xs H Q => (∃ p ys, xs = [.ref p] ∧ (SqL X.K H p ys ∨ SqT X.K H p ys) ∧ Q (.int ys.length) H) ∨ ∃ z, xs = [.str z] ∧ z.length ≤ sizeLine ∧ Q (.int z.length) H) := call_len_seq.or call_len_str
def fAbs : List D → Option D
  | [.int i] => some (.int (if i < 0 then -i else i))
  | _ => none
theorem c_abs : CallF K mg fAbs (fun xs H Q => ∃ i, xs = [.int i] ∧ Q (.int (if i < 0 then -i else i)) H) .fz := by
  intro H F vs ds d Q s r hf q
  unfold fAbs at hf
  split at hf <;> cases hf
  obtain ⟨v, w, rfl, h1, rfl⟩ := r
  rw [h1.int]
  exact ⟨_, rfl, q _ H F (Grow.refl s) (.atom rfl rfl)⟩
def fMax2 : List D → Option D
  | [.int i, .int j] => some (.int (if j > i then j else i))
  | _ => none
def fMin2 : List D → Option D
  | [.int i, .int j] => some (.int (if j < i then j else i))
  | _ => none
theorem c_max2 : CallF K mg fMax2 (fun xs H Q => ∃ i j, xs = [.int i, .int j] ∧ Q (.int (if j > i then j else i)) H) .fz := by
  intro H F vs ds d Q s r hf q
  unfold fMax2 at hf
  split at hf <;> cases hf
  obtain ⟨v, w, rfl, h1, v2, w2, rfl, h2, rfl⟩ := r
  rw [h1.int, h2.int]
  exact ⟨_, _, rfl, q _ H F (Grow.refl s) (.atom rfl rfl)⟩
theorem c_min2 : CallF K mg fMin2 (fun xs H Q => ∃ i j, xs = [.int i, .int j] ∧ Q (.int (if j < i then j else i)) H) .fz := by
  intro H F vs ds d Q s r hf q
  unfold fMin2 at hf
  split at hf <;> cases hf
  obtain ⟨v, w, rfl, h1, v2, w2, rfl, h2, rfl⟩ := r
  rw [h1.int, h2.int]
  exact ⟨_, _, rfl, q _ H F (Grow.refl s) (.atom rfl rfl)⟩
def fInt : List D → Option D
  | [.int i] => some (.int i)
  | [.bl k] => some (.int (if k then 1 else 0))
  | _ => none
theorem c_int : CallF K mg fInt (fun xs H Q => (∃ i, xs = [.int i] ∧ Q (.int i) H) ∨ ∃ k, xs = [.bl k] ∧ Q (.int (if k then 1 else 0)) H) .fz := by
  intro H F vs ds d Q s r hf q
  unfold fInt at hf
  split at hf <;> cases hf
  · obtain ⟨v, w, rfl, h1, rfl⟩ := r
    rw [h1.int]
    exact .inl ⟨_, rfl, q _ H F (Grow.refl s) (.atom rfl rfl)⟩
  · obtain ⟨v, w, rfl, h1, rfl⟩ := r
    rw [h1.bl]
    exact .inr ⟨_, rfl, q _ H F (Grow.refl s) (.atom rfl rfl)⟩
def fList : List D → Option D
  | [.lst l] => some (.lst l)
  | [.tup l] => some (.lst l)
  | [.scr l] => some (.lst (l.map .int))
  | _ => none
theorem c_list : CallF K mg fList (fun xs H Q => ∃ p ys, xs = [.ref p] ∧ (SqL K H p ys ∨ SqT K H p ys) ∧ ∀ l, H l = none → Q (.ref l) (upd H l (.lst ys))) .own := by
  intro H F vs ds d Q s r hf q
  unfold fList at hf
  split at hf <;> cases hf
  · obtain ⟨v, w, rfl, h1, rfl⟩ := r
    obtain ⟨p, vs, rfl, h2, h3⟩ := h1.lst
    exact ⟨p, vs, rfl, .inl (.of h2), fun n hn => q _ _ F (Grow.newO s hn) (.newL hn s h3)⟩
  · obtain ⟨v, w, rfl, h1, rfl⟩ := r
    obtain ⟨p, vs, rfl, h2, h3⟩ := h1.tup
    exact ⟨p, vs, rfl, .inr (Same.sqT s h2), fun n hn => q _ _ F (Grow.newO s hn) (.newL hn s h3)⟩
  · obtain ⟨v, w, rfl, h1, rfl⟩ := r
    obtain ⟨p, rfl, h2⟩ := h1.scr
    exact ⟨p, _, rfl, .inl (L2.Same.seq s h2), fun n hn => q _ _ F (Grow.newO s hn) (.newL hn s ints_reps)⟩
def fTuple : List D → Option D
  | [.lst l] => some (.tup l)
  | [.tup l] => some (.tup l)
  | _ => none
theorem c_tuple : CallF K mg fTuple (fun xs H Q => ∃ p ys, xs = [.ref p] ∧ ((SqL K H p ys ∧ ∀ l, H l = none → Q (.ref l) (upd H l (.tup ys))) ∨ (SqT K H p ys ∧ Q (.ref p) H))) .fz := by
  intro H F vs ds d Q s r hf q
  unfold fTuple at hf
  split at hf <;> cases hf
  · obtain ⟨v, w, rfl, h1, rfl⟩ := r
    obtain ⟨p, vs, rfl, h2, h3⟩ := h1.lst
    exact ⟨p, vs, rfl, .inl ⟨.of h2, fun n hn => q _ _ _ (Grow.newF s hn) (rep_tup_new hn s h3)⟩⟩
  · obtain ⟨v, w, rfl, h1, rfl⟩ := r
    obtain ⟨p, vs, rfl, h2, h3⟩ := h1.tup
    exact ⟨p, vs, rfl, .inr ⟨Same.sqT s h2, q _ H F (Grow.refl s) (by simp only [NewOk, rep]; exact ⟨p, vs, rfl, h2, h3⟩)⟩⟩
def intsOf : List D → Option (List Int)
  | [] => some []
  | .int i :: r => (intsOf r).map (i :: ·)
  | _ :: _ => none
theorem intsOf_ok : ∀ {l : List D} {ns : List Int}, intsOf l = some ns → l = ns.map D.int
  | [], _, h => by cases h; rfl
  | d :: r, ns, h => by
    cases d <;> simp only [intsOf] at h <;> first | (cases h; done) | skip
    cases hr : intsOf r with
    | none => rw [hr] at h; cases h
    | some k => rw [hr] at h; cases h; rw [intsOf_ok hr]; rfl
@[simp] theorem intsOf_map (ns : List Int) : intsOf (ns.map D.int) = some ns := by
  induction ns with
  | nil => rfl
  | cons n ns ih => simp only [List.map_cons, intsOf, ih, Option.map_some]
def blsOf : List D → Option (List Bool)
  | [] => some []
  | .bl i :: r => (blsOf r).map (i :: ·)
  | _ :: _ => none
theorem blsOf_ok : ∀ {l : List D} {ns : List Bool}, blsOf l = some ns → l = ns.map D.bl
  | [], _, h => by cases h; rfl
  | d :: r, ns, h => by
    cases d <;> simp only [blsOf] at h <;> first | (cases h; done) | skip
    cases hr : blsOf r with
    | none => rw [hr] at h; cases h
    | some k => rw [hr] at h; cases h; rw [blsOf_ok hr]; rfl
@[simp] theorem blsOf_map (ns : List Bool) : blsOf (ns.map D.bl) = some ns := by
  induction ns with
  | nil => rfl
  | cons n ns ih => simp only [List.map_cons, blsOf, ih, Option.map_some]
theorem reps_bls {F : Hp} : ∀ {ns : List Bool} {vs : List V}, reps K mg F (ns.map D.bl) vs → vs = ns.map V.bl
  | [], _, h => by simpa only [reps, List.map_nil] using h
  | n :: ns, _, h => by
    simp only [List.map_cons, reps] at h
    obtain ⟨v, r, rfl, h1, h2⟩ := h
    simp only [rep] at h1
    subst h1
    rw [reps_bls h2, List.map_cons]
def fSum : List D → Option D
  | [.lst l] => (intsOf l).map fun ns => .int ns.sum
  | _ => none
theorem c_sum : CallF K mg fSum (rSum K) .fz := by
  intro H F vs ds d Q s r hf q
  unfold fSum at hf
  split at hf
  · rename_i l
    cases hn : intsOf l with
    | none => rw [hn] at hf; cases hf
    | some ns =>
      rw [hn] at hf; cases hf
      have e := intsOf_ok hn
      subst e
      obtain ⟨v, w, rfl, h1, rfl⟩ := r
      obtain ⟨p, vs, rfl, h2, h3⟩ := h1.lst
      rw [reps_ints h3] at h2
      exact ⟨p, ns, rfl, .of h2, q _ H F (Grow.refl s) (.atom rfl rfl)⟩
  · cases hf
def maxL : Int → List Int → Int
  | x, [] => x
  | x, y :: r => maxL (if y > x then y else x) r
def minL : Int → List Int → Int
  | x, [] => x
  | x, y :: r => minL (if y < x then y else x) r
theorem maxL_spec : ∀ (r : List Int) (x : Int), (maxL x r = x ∨ maxL x r ∈ r) ∧ x ≤ maxL x r ∧ ∀ y ∈ r, y ≤ maxL x r
  | [], x => ⟨.inl rfl, Int.le_refl _, fun _ h => by cases h⟩
  | z :: r, x => by
    obtain ⟨h1, h2, h3⟩ := maxL_spec r (if z > x then z else x)
    simp only [maxL]
    by_cases c : z > x
    · rw [if_pos c] at h1 h2 h3 ⊢
      refine ⟨?_, by omega, fun y hy => ?_⟩
      · rcases h1 with h1 | h1
        · right; rw [h1]; exact List.mem_cons_self
        · right; exact List.mem_cons_of_mem _ h1
      · rcases List.mem_cons.mp hy with rfl | hy
        · exact h2
        · exact h3 y hy
    · rw [if_neg c] at h1 h2 h3 ⊢
      refine ⟨?_, h2, fun y hy => ?_⟩
      · rcases h1 with h1 | h1
        · exact .inl h1
        · exact .inr (List.mem_cons_of_mem _ h1)
      · rcases List.mem_cons.mp hy with rfl | hy
        · omega
        · exact h3 y hy
theorem minL_spec : ∀ (r : List Int) (x : Int), (minL x r = x ∨ minL x r ∈ r) ∧ minL x r ≤ x ∧ ∀ y ∈ r, minL x r ≤ y
  | [], x => ⟨.inl rfl, Int.le_refl _, fun _ h => by cases h⟩
  | z :: r, x => by
    obtain ⟨h1, h2, h3⟩ := minL_spec r (if z < x then z else x)
    simp only [minL]
    by_cases c : z < x
    · rw [if_pos c] at h1 h2 h3 ⊢
      refine ⟨?_, by omega, fun y hy => ?_⟩
      · rcases h1 with h1 | h1
        · right; rw [h1]; exact List.mem_cons_self
        · right; exact List.mem_cons_of_mem _ h1
      · rcases List.mem_cons.mp hy with rfl | hy
        · exact h2
        · exact h3 y hy
    · rw [if_neg c] at h1 h2 h3 ⊢
      refine ⟨?_, h2, fun y hy => ?_⟩
      · rcases h1 with h1 | h1
        · exact .inl h1
        · exact .inr (List.mem_cons_of_mem _ h1)
      · rcases List.mem_cons.mp hy with rfl | hy
        · omega
        · exact h3 y hy
def fMaxL : List D → Option D
  | [.lst l] => match intsOf l with
    | some (x :: r) => some (.int (maxL x r))
    | _ => none
  | _ => none
def fMinL : List D → Option D
  | [.lst l] => match intsOf l with
    | some (x :: r) => some (.int (minL x r))
    | _ => none
  | _ => none
theorem c_maxL : CallF K mg fMaxL (rMax K) .fz := by
  intro H F vs ds d Q s r hf q
  unfold fMaxL at hf
  split at hf
  · split at hf <;> cases hf
    rename_i x t hn
    have e := intsOf_ok hn
    subst e
    obtain ⟨v, w, rfl, h1, rfl⟩ := r
    obtain ⟨p, vs, rfl, h2, h3⟩ := h1.lst
    rw [reps_ints h3] at h2
    refine ⟨p, _, rfl, .of h2, by simp, fun m hm hy => ?_⟩
    have e : m = maxL x t := by
      obtain ⟨k1, k2, k3⟩ := maxL_spec t x
      have a1 : maxL x t ≤ m := by
        rcases k1 with k | k
        · rw [k]; exact hy x List.mem_cons_self
        · exact hy _ (List.mem_cons_of_mem _ k)
      have a2 : m ≤ maxL x t := by
        rcases List.mem_cons.mp hm with rfl | hm
        · exact k2
        · exact k3 m hm
      omega
    subst e
    exact q _ H F (Grow.refl s) (.atom rfl rfl)
  · cases hf
theorem c_minL : CallF K mg fMinL (rMin K) .fz := by
  intro H F vs ds d Q s r hf q
  unfold fMinL at hf
  split at hf
  · split at hf <;> cases hf
    rename_i x t hn
    have e := intsOf_ok hn
    subst e
    obtain ⟨v, w, rfl, h1, rfl⟩ := r
    obtain ⟨p, vs, rfl, h2, h3⟩ := h1.lst
    rw [reps_ints h3] at h2
    refine ⟨p, _, rfl, .of h2, by simp, fun m hm hy => ?_⟩
    have e : m = minL x t := by
      obtain ⟨k1, k2, k3⟩ := minL_spec t x
      have a1 : m ≤ minL x t := by
        rcases k1 with k | k
        · rw [k]; exact hy x List.mem_cons_self
        · exact hy _ (List.mem_cons_of_mem _ k)
      have a2 : minL x t ≤ m := by
        rcases List.mem_cons.mp hm with rfl | hm
        · exact k2
        · exact k3 m hm
      omega
    subst e
    exact q _ H F (Grow.refl s) (.atom rfl rfl)
  · cases hf
def fAny : List D → Option D
  | [.lst l] => (blsOf l).map fun ns => .bl (ns.any id)
  | _ => none
def fAll : List D → Option D
  | [.lst l] => (blsOf l).map fun ns => .bl (ns.all id)
  | _ => none
theorem c_any : CallF K mg fAny (rAny K) .fz := by
  intro H F vs ds d Q s r hf q
  unfold fAny at hf
  split at hf
  · rename_i l
    cases hn : blsOf l with
    | none => rw [hn] at hf; cases hf
    | some ns =>
      rw [hn] at hf; cases hf
      have e := blsOf_ok hn
      subst e
      obtain ⟨v, w, rfl, h1, rfl⟩ := r
      obtain ⟨p, vs, rfl, h2, h3⟩ := h1.lst
      rw [reps_bls h3] at h2
      exact ⟨p, ns, rfl, .of h2, q _ H F (Grow.refl s) (.atom rfl rfl)⟩
  · cases hf
theorem c_all : CallF K mg fAll (rAll K) .fz := by
  intro H F vs ds d Q s r hf q
  unfold fAll at hf
  split at hf
  · rename_i l
    cases hn : blsOf l with
    | none => rw [hn] at hf; cases hf
    | some ns =>
      rw [hn] at hf; cases hf
      have e := blsOf_ok hn
      subst e
      obtain ⟨v, w, rfl, h1, rfl⟩ := r
      obtain ⟨p, vs, rfl, h2, h3⟩ := h1.lst
      rw [reps_bls h3] at h2
      exact ⟨p, ns, rfl, .of h2, q _ H F (Grow.refl s) (.atom rfl rfl)⟩
  · cases hf
end
end VL

set_option Elab.async false
set_option linter.all false
set_option maxRecDepth 100000
/-! VL6: statements. -/
namespace VL
open PySem PySem.Spec PyProof.Rows L2

/-- the slots that stay -/
def Keep (As : List Nat) (σ σ' : St) : Prop := σ'.length = σ.length ∧ ∀ i, i ∉ As → σ'[i]? = σ[i]?
theorem Keep.refl {As : List Nat} {σ : St} : Keep As σ σ := ⟨rfl, fun _ _ => rfl⟩
theorem Keep.trans {As : List Nat} {σ σ1 σ2 : St} (a : Keep As σ σ1) (b : Keep As σ1 σ2) : Keep As σ σ2 := ⟨b.1.trans a.1, fun i h => (b.2 i h).trans (a.2 i h)⟩
theorem Keep.set {As : List Nat} {σ : St} {i : Nat} {v : Option V} (h : i ∈ As) : Keep As σ (σ.set i v) := ⟨List.length_set, fun j hj => by
  rw [List.getElem?_set_ne (by intro e; subst e; exact hj h)]⟩
theorem Keep.sub {As Bs : List Nat} {σ σ' : St} (h : ∀ i ∈ As, i ∈ Bs) (k : Keep As σ σ') : Keep Bs σ σ' := ⟨k.1, fun i n => k.2 i fun z => n (h i z)⟩

/-- what a body hands on: the loop's modes, the slots that may be stored, the slots handed back, the answer's mode -/
structure SC where
  ΓL : Gm
  As : List Nat
  ios : List (Nat × Addr)
  rm : Md
/-- the answer: of the frozen part, or one's own: made since, or owned before, and no slot's that is handed back -/
def RetV (K : PySem.W.Frag) (mg : Str → Option Value) (rm : Md) (O : Ft) (ios : List (Nat × Addr)) (H H' F' : Hp) (v : V) (d : D) : Prop :=
  match rm with
  | .own => Cell K mg H' F' v d ∧ (cellD d = true → ∀ p, v = .ref p → H p = none ∨ (O.o p ∧ ∀ i q, (i, q) ∈ ios → p ≠ q))
  | _ => rep K mg F' d v
def exWS (W : WE) (Γ : Gm) (As : List Nat) (ρ : Env) (σ : St) (H F : Hp) : Exn → Prop := fun x => ∀ σ' H' F' O', Evo (Own Γ ρ σ) H F O' H' F' → Keep As σ σ' → W x σ' H' F'
theorem exWS.evo {W : WE} {As : List Nat} {Γ Γ' : Gm} {ρ ρ' : Env} {σ σ' : St} {H F H' F' : Hp} {x : Exn} (h : exWS W Γ As ρ σ H F x) (e : Evo (Own Γ ρ σ) H F (Own Γ' ρ' σ') H' F') (k : Keep As σ σ') : exWS W Γ' As ρ' σ' H' F' x :=
  fun σ2 H2 F2 O2 e2 k2 => h σ2 H2 F2 O2 (e.trans e2) (k.trans k2)
theorem exWS.ex {W : WE} {As : List Nat} {Γ : Gm} {ρ : Env} {σ : St} {H F : Hp} {x : Exn} (h : exWS W Γ As ρ σ H F x) : exW W Γ ρ σ H F x := fun H' F' O' e => h σ H' F' O' e Keep.refl
section
variable (X : Cx) (Γ Γ' : Gm) (S : SC) (W : WE)
def okS (D : Ends) (ρ : Env) (σ : St) (H F : Hp) : Fl → Prop
  | .next ρ' => ∀ σ' H' F', Evo (Own Γ ρ σ) H F (Own Γ' ρ' σ') H' F' → Keep S.As σ σ' → Rel X.K X.mg Γ' ρ' σ' H' F' → D.nx σ' H'
  | .brk ρ' => ∀ σ' H' F', Evo (Own Γ ρ σ) H F (Own S.ΓL ρ' σ') H' F' → Keep S.As σ σ' → Rel X.K X.mg S.ΓL ρ' σ' H' F' → D.bk σ' H'
  | .cont ρ' => ∀ σ' H' F', Evo (Own Γ ρ σ) H F (Own S.ΓL ρ' σ') H' F' → Keep S.As σ σ' → Rel X.K X.mg S.ΓL ρ' σ' H' F' → D.ct σ' H'
  | .ret d ρ' => ∀ v σ' H' F' Γr, Evo (Own Γ ρ σ) H F (Own Γr ρ' σ') H' F' → Rel X.K X.mg Γr ρ' σ' H' F' → (∀ i q, (i, q) ∈ S.ios → Γr[i]? = some (.io q)) → RetV X.K X.mg S.rm (Own Γ ρ σ) S.ios H H' F' v d → D.rt v H'
def trS (ev : Es) : TS := fun D σ H => ∃ ρ F, Rel X.K X.mg Γ ρ σ H F ∧ (ev ρ).sat (okS X Γ Γ' S D ρ σ H F) (exWS W Γ S.As ρ σ H F)
abbrev VS (st : Stmt) (ev : Es) : Prop := PS X st (trS X Γ Γ' S W ev)
abbrev VSs (st : List Stmt) (ev : Es) : Prop := PSs X st (trS X Γ Γ' S W ev)
end
theorem RetV.evo {K : PySem.W.Frag} {mg : Str → Option Value} {rm : Md} {O O1 : Ft} {ios : List (Nat × Addr)} {H H1 F F1 H' F' : Hp} {v : V} {d : D} (h : RetV K mg rm O1 ios H1 H' F' v d) (e : Evo O H F O1 H1 F1) : RetV K mg rm O ios H H' F' v d := by
  cases rm <;> first | exact h | skip
  refine ⟨h.1, fun c p z => ?_⟩
  rcases h.2 c p z with k | ⟨k, n⟩
  · exact .inl (e.dom p k)
  · rcases e.ow p k with k | k
    · exact .inr ⟨k, n⟩
    · exact .inl k
section
variable {X : Cx} {Γ Γ' Γ1 Γ2 Γ3 : Gm} {S : SC} {W : WE} {st : Stmt} {sts rest : List Stmt} {e a b c : Expr} {pos pos' : Pos} {m : Md} {ev : Ev} {et : Et} {es e1 e2 : Es}
theorem psImp {t t' : TS} (h : PS X st t) (i : ∀ D σ H, t' D σ H → t D σ H) : PS X st t' := ⟨fun pins s σ H D I q => h.run pins s σ H D I (i D σ H q)⟩
theorem pssImp {t t' : TS} (h : PSs X sts t) (i : ∀ D σ H, t' D σ H → t D σ H) : PSs X sts t' := ⟨fun pins s σ H D I q => h.run pins s σ H D I (i D σ H q)⟩
/-- a later state's ends from an earlier state's -/
theorem okS.evo {D : Ends} {ρ ρ1 : Env} {σ σ1 : St} {H F H1 F1 : Hp} {fl : Fl} (h : okS X Γ Γ' S D ρ σ H F fl) (ee : Evo (Own Γ ρ σ) H F (Own Γ1 ρ1 σ1) H1 F1) (k : Keep S.As σ σ1) : okS X Γ1 Γ' S D ρ1 σ1 H1 F1 fl := by
  cases fl with
  | next ρ' => exact fun σ' H' F' e1 k1 r1 => h σ' H' F' (ee.trans e1) (k.trans k1) r1
  | brk ρ' => exact fun σ' H' F' e1 k1 r1 => h σ' H' F' (ee.trans e1) (k.trans k1) r1
  | cont ρ' => exact fun σ' H' F' e1 k1 r1 => h σ' H' F' (ee.trans e1) (k.trans k1) r1
  | ret d ρ' => exact fun v σ' H' F' Γr e1 r1 hi rv => h v σ' H' F' Γr (ee.trans e1) r1 hi (rv.evo ee)

def sNil : Es := fun ρ => .ok (.next ρ)
def sSeq (a b : Es) : Es := fun ρ => (a ρ).bind fun fl => match fl with
  | .next ρ' => b ρ'
  | x => .ok x
theorem vss_nil : VSs X Γ Γ S W [] sNil := pssImp pss_nil fun D σ H ⟨ρ, F, r, q⟩ => q σ H F (Evo.refl r.sub) Keep.refl r
theorem vss_cons (h1 : VS X Γ Γ1 S W st e1) (h2 : VSs X Γ1 Γ2 S W rest e2) : VSs X Γ Γ2 S W (st :: rest) (sSeq e1 e2) :=
  pssImp (pss_cons h1 h2) fun D σ H ⟨ρ, F, r, q⟩ => ⟨ρ, F, r, Res.sat_imp (Res.sat_bind.mp q) (fun fl _ q => by
    cases fl with
    | next ρ' => exact fun σ' H' F' ee k r1 => ⟨ρ', F', r1, Res.sat_imp q (fun fl2 _ q => q.evo ee k) fun _ h => h.evo ee k⟩
    | brk ρ' => exact q
    | cont ρ' => exact q
    | ret d ρ' => exact q) fun _ h => h⟩
theorem vss_one (h1 : VS X Γ Γ1 S W st e1) : VSs X Γ Γ1 S W [st] e1 := pss_one h1
def sPass : Es := fun ρ => .ok (.next ρ)
def sBrk : Es := fun ρ => .ok (.brk ρ)
def sCont : Es := fun ρ => .ok (.cont ρ)
theorem vs_pass : VS X Γ Γ S W (.Pass pos) sPass := psImp ps_pass fun D σ H ⟨ρ, F, r, q⟩ => q σ H F (Evo.refl r.sub) Keep.refl r
theorem vs_break (h : S.ΓL = Γ) : VS X Γ Γ' S W (.Break pos) sBrk := psImp ps_break fun D σ H ⟨ρ, F, r, q⟩ => q σ H F (by rw [h]; exact Evo.refl r.sub) Keep.refl (by rw [h]; exact r)
theorem vs_cont (h : S.ΓL = Γ) : VS X Γ Γ' S W (.Continue pos) sCont := psImp ps_continue fun D σ H ⟨ρ, F, r, q⟩ => q σ H F (by rw [h]; exact Evo.refl r.sub) Keep.refl (by rw [h]; exact r)
def sExpr (f : Ev) : Es := fun ρ => (f ρ).bind fun r => .ok (.next r.2)
theorem vs_expr (h : VE X Γ Γ1 W e m ev) (hs : swapsWith e none pos.line X.env = pure false := by rfl) : VS X Γ Γ1 S W (.Expr e pos) (sExpr ev) :=
  psImp (ps_expr h hs) fun D σ H ⟨ρ, F, r, q⟩ => ⟨ρ, F, r, Res.sat_imp (Res.sat_bind.mp q) (fun z _ q v H' F' ee r1 vo => q σ H' F' ee Keep.refl r1) fun _ h => h.ex⟩
def sRet (f : Ev) : Es := fun ρ => (f ρ).bind fun r => .ok (.ret r.1 r.2)
def sRetN : Es := fun ρ => .ok (.ret .non ρ)
theorem ioOwn {K : PySem.W.Frag} {mg : Str → Option Value} {ρ : Env} {σ : St} {H F : Hp} (r : Rel K mg Γ ρ σ H F) {i : Nat} {q : Addr} (h : Γ[i]? = some (.io q)) (hs : ∃ d, ρ[i]? = some (some d)) : (Own Γ ρ σ).o q := by
  obtain ⟨d, hd⟩ := hs
  obtain ⟨v, h1, h2, h3, _⟩ := r.slot i _ d h hd
  exact ⟨i, _, d, h, rfl, hd, h3, by rw [h1, h2]⟩
def setAll (ios : List (Nat × Addr)) (ρ : Env) : Bool := ios.all fun p => match ρ[p.1]? with
  | some (some _) => true
  | _ => false
theorem vs_ret (h : VE X Γ Γ1 W e m ev) (hm : m = S.rm) (hi : ∀ i q, (i, q) ∈ S.ios → Γ1[i]? = some (.io q)) : VS X Γ Γ' S W (.Return (some e) pos) (sRet ev) :=
  psImp (ps_ret h) fun D σ H ⟨ρ, F, r, q⟩ => ⟨ρ, F, r, Res.sat_imp (Res.sat_bind.mp q) (fun z _ q v H' F' ee r1 vo => q v σ H' F' Γ1 ee r1 hi (by
    rw [← hm]
    cases m <;> first | exact vo | skip
    exact ⟨vo.1, fun c p z => .inl (vo.2 c p z).1⟩)) fun _ h => h.ex⟩
theorem vs_retN (hi : ∀ i q, (i, q) ∈ S.ios → Γ[i]? = some (.io q)) (hr : S.rm = .fz) : VS X Γ Γ' S W (.Return none pos) sRetN :=
  psImp ps_retN fun D σ H ⟨ρ, F, r, q⟩ => q .non σ H F Γ (Evo.refl r.sub) r hi (by rw [hr]; rfl)
/-- return x, x a slot of one's own: it is handed out (where the slots to be handed back are set) -/
def eOut (js : List Nat) (i : Nat) : Ev := fun ρ => if (js.all fun j => match ρ[j]? with | some (some _) => true | _ => false) = true then eVar i ρ else .bad
theorem vs_retOwn {i : Nat} {js : List Nat} (h : PE X e (tVar i)) (hm : Γ[i]? = some .own) (hr : S.rm = .own) (hi : ∀ j q, (j, q) ∈ S.ios → Γ[j]? = some (.io q)) (hj : ∀ j q, (j, q) ∈ S.ios → j ∈ js) : VS X Γ Γ' S W (.Return (some e) pos) (sRet (eOut js i)) :=
  psImp (ps_ret h) fun D σ H ⟨ρ, F, r, q⟩ => by
    have q := Res.sat_bind.mp q
    unfold eOut at q
    split at q
    · rename_i hset
      obtain ⟨d, e2, q⟩ := gv_sat (Res.sat_bind.mp q)
      obtain ⟨v, h1, h2⟩ := r.slot i _ d hm e2
      refine ⟨v, h1, q v σ H F Γ (Evo.refl r.sub) r hi ?_⟩
      rw [hr]
      refine ⟨h2, fun c p z => .inr ⟨⟨i, _, d, hm, rfl, e2, c, by rw [h1, z]⟩, fun j q hq e => ?_⟩⟩
      have k := List.all_eq_true.mp hset j (hj j q hq)
      have sj : ∃ d', ρ[j]? = some (some d') := by
        cases hh : ρ[j]? with
        | none => rw [hh] at k; cases k
        | some o => cases o with
          | none => rw [hh] at k; cases k
          | some d' => exact ⟨d', rfl⟩
      obtain ⟨d', hd'⟩ := sj
      obtain ⟨u, k1, k2, k3, _⟩ := r.slot j _ d' (hi j q hq) hd'
      have := r.inj i j p ⟨_, d, hm, rfl, e2, c, by rw [h1, z]⟩ ⟨_, d', hi j q hq, rfl, hd', k3, by rw [k1, k2, e]⟩
      subst this
      have hh := hi i q hq
      rw [hm] at hh
      cases hh
    · exact q.elim
def sIf (t : Et) (a b : Es) : Es := fun ρ => (t ρ).bind fun r => if r.1 = true then a r.2 else b r.2
theorem vs_if {A B : List Stmt} (hc : VT X Γ Γ1 W c et) (ha : VSs X Γ1 Γ2 S W A e1) (hb : VSs X Γ1 Γ2 S W B e2) : VS X Γ Γ2 S W (.If c A B pos) (sIf et e1 e2) :=
  psImp (ps_if hc ha hb) fun D σ H ⟨ρ, F, r, q⟩ => ⟨ρ, F, r, Res.sat_imp (Res.sat_bind.mp q) (fun z _ q H' F' ee r1 => by
    have go : ∀ {ev : Es}, (ev z.2).sat (okS X Γ Γ2 S D ρ σ H F) (exWS W Γ S.As ρ σ H F) → trS X Γ1 Γ2 S W ev D σ H' := fun q =>
      ⟨z.2, F', r1, Res.sat_imp q (fun fl _ q => q.evo ee Keep.refl) fun _ h => h.evo ee Keep.refl⟩
    dsimp only
    split
    · rename_i hz
      rw [if_pos hz] at q
      exact go q
    · rename_i hz
      rw [if_neg hz] at q
      exact go q) fun _ h => h.ex⟩

/-! ### stores -/
theorem getset {α : Type} {l : List α} {i : Nat} {x : α} (h : i < l.length) : (l.set i x)[i]? = some x := List.getElem?_set_self h
/-- a slot is stored -/
theorem Rel.setM {K : PySem.W.Frag} {mg : Str → Option Value} {ρ : Env} {σ : St} {H F H0 F0 : Hp} {O0 : Ft} {i : Nat} {v : V} {d : D} (r : Rel K mg Γ ρ σ H F) (hl : i < Γ.length) (ev : Evo O0 H0 F0 (Own Γ ρ σ) H F)
    (hb : ∀ j p, O0.b j p → ∃ o, H0 p = some o) (hv : ValOk K mg m (Own Γ ρ σ) H0 H F v d) (hm : m = .fz ∨ m = .own) :
    Rel K mg (Γ.set i m) (ρ.set i (some d)) (σ.set i (some v)) H F ∧ Evo O0 H0 F0 (Own (Γ.set i m) (ρ.set i (some d)) (σ.set i (some v))) H F := by
  have lr := r.lr
  have lg := r.lg
  have li : i < ρ.length := by omega
  have ls : i < σ.length := by omega
  -- own places afterwards
  have own1 : ∀ j p, OwnAt (Γ.set i m) (ρ.set i (some d)) (σ.set i (some v)) j p → (j ≠ i ∧ OwnAt Γ ρ σ j p) ∨ (j = i ∧ m = .own ∧ cellD d = true ∧ v = .ref p) := by
    rintro j p ⟨m', d', g1, g2, g3, g4, g5⟩
    by_cases e : i = j
    · subst e
      rw [getset hl] at g1; rw [getset li] at g3; rw [getset ls] at g5
      cases g1; cases g3; cases g5
      refine .inr ⟨rfl, ?_, g4, rfl⟩
      rcases hm with rfl | rfl
      · cases g2
      · rfl
    · rw [List.getElem?_set_ne e] at g1 g3 g5
      exact .inl ⟨fun z => e z.symm, m', d', g1, g2, g3, g4, g5⟩
  have brw1 : ∀ j p, BrwAt (Γ.set i m) (ρ.set i (some d)) (σ.set i (some v)) j p → j ≠ i ∧ BrwAt Γ ρ σ j p := by
    rintro j p ⟨d', g1, g3, g4, g5⟩
    by_cases e : i = j
    · subst e
      rw [getset hl] at g1; cases g1
      rcases hm with h | h <;> cases h
    · rw [List.getElem?_set_ne e] at g1 g3 g5
      exact ⟨fun z => e z.symm, d', g1, g3, g4, g5⟩
  have fresh : m = .own → cellD d = true → ∀ p, v = .ref p → H0 p = none ∧ ¬ (Own Γ ρ σ).o p := fun e c p z => by
    subst e; exact hv.2 c p z
  refine ⟨⟨by simp only [List.length_set]; exact lr, by simp only [List.length_set]; exact lg, fun j m' d' g1 g2 => ?_, fun a b p ga gb => ?_, r.sub⟩, ev.sf, ev.sh, ev.kp, ev.dom, fun p ⟨j, hj⟩ => ?_, fun j p hj => ev.ob j p (brw1 j p hj).2⟩
  · by_cases e : i = j
    · subst e
      rw [getset hl] at g1; rw [getset li] at g2
      cases g1; cases g2
      refine ⟨v, getset ls, ?_⟩
      rcases hm with rfl | rfl
      · exact hv
      · exact hv.1
    · rw [List.getElem?_set_ne e] at g1 g2
      obtain ⟨w, w1, w2⟩ := r.slot j m' d' g1 g2
      refine ⟨w, by rw [List.getElem?_set_ne e]; exact w1, ?_⟩
      cases m' with
      | xc a c x => exact w2
      | fz => exact w2
      | own => exact w2
      | io q => exact w2
      | brw =>
        have w2 : RdN K mg (Own Γ ρ σ) H F w d' := w2
        show RdN K mg _ H F w d'
        unfold RdN at w2 ⊢
        split
        · rename_i hc
          rw [if_pos hc] at w2
          obtain ⟨q, o, e1, e2, e3, e4⟩ := w2
          subst e1
          refine ⟨q, o, rfl, e2, e3, ?_⟩
          rcases e4 with e4 | ⟨e4, e5⟩
          · exact .inl e4
          · refine .inr ⟨e4, fun ⟨k, hk⟩ => ?_⟩
            rcases own1 k q hk with ⟨_, z⟩ | ⟨_, z1, z2, z3⟩
            · exact e5 ⟨k, z⟩
            · obtain ⟨o', ho⟩ := hb j q (ev.ob j q ⟨d', g1, g2, hc, w1⟩)
              rw [(fresh z1 z2 q z3).1] at ho; cases ho
        · rename_i hc
          rw [if_neg hc] at w2
          exact w2
  · rcases own1 a p ga with ⟨_, z⟩ | ⟨za, z1, z2, z3⟩
    · rcases own1 b p gb with ⟨_, w⟩ | ⟨_, w1, w2, w3⟩
      · exact r.inj a b p z w
      · exact absurd ⟨a, z⟩ (fresh w1 w2 p w3).2
    · rcases own1 b p gb with ⟨_, w⟩ | ⟨zb, _⟩
      · exact absurd ⟨b, w⟩ (fresh z1 z2 p z3).2
      · rw [za, zb]
  · rcases own1 j p hj with ⟨_, z⟩ | ⟨_, z1, z2, z3⟩
    · exact ev.ow p ⟨j, z⟩
    · exact .inr (fresh z1 z2 p z3).1
theorem Rel.brwThere {K : PySem.W.Frag} {mg : Str → Option Value} {ρ : Env} {σ : St} {H F : Hp} (r : Rel K mg Γ ρ σ H F) : ∀ j p, (Own Γ ρ σ).b j p → ∃ o, H p = some o := by
  rintro j p ⟨d, h1, h2, h3, h4⟩
  obtain ⟨v, k1, k2⟩ := r.slot j _ d h1 h2
  have k2 : RdN K mg (Own Γ ρ σ) H F v d := k2
  rw [h4] at k1; cases k1
  unfold RdN at k2
  rw [if_pos h3] at k2
  obtain ⟨q, o, e, h, _⟩ := k2
  cases e
  exact ⟨o, h⟩
def sSet (i : Nat) (f : Ev) : Es := fun ρ => (f ρ).bind fun r => .ok (.next (r.2.set i (some r.1)))
theorem vs_set {i : Nat} {x : Str} (hN : X.N.Nodup) (hi : X.N[i]? = some x) (hx : Loc X.env.scope x) (h : VE X Γ Γ1 W e m ev) (hm : m = .fz ∨ m = .own) (hl : i < Γ1.length) (ha : i ∈ S.As) (hs : swapsWith e (some (.Name x pos')) pos.line X.env = pure false := by rfl)
    (hf : X.fn x = true ∨ X.env.scope.names.lookup x = some .local := by first | exact .inl rfl | exact .inr rfl | assumption) : VS X Γ (Γ1.set i m) S W (.Assign [.Name x pos'] e pos) (sSet i ev) :=
  psImp (ps_set hN hi hx h hs hf) fun D σ H ⟨ρ, F, r, q⟩ => ⟨ρ, F, r, Res.sat_imp (Res.sat_bind.mp q) (fun z _ q v H' F' ee r1 vo => by
    obtain ⟨r2, e2⟩ := r1.setM hl ee r.brwThere vo hm
    exact q _ H' F' e2 (Keep.set ha) r2) fun _ h => h.ex⟩
end
end VL

set_option Elab.async false
set_option linter.all false
set_option maxRecDepth 100000
/-! VL7: changes of one's own lists, targets, loops. -/
namespace VL
open PySem PySem.Spec PyProof.Rows L2

section
variable {K : PySem.W.Frag} {mg : Str → Option Value} {Γ : Gm} {ρ : Env} {σ : St} {H F : Hp} {i : Nat} {m : Md} {d d' : D} {p : Addr} {o o' : HO}
/-- the object of a slot of one's own -/
theorem Rel.ownAt (r : Rel K mg Γ ρ σ H F) (hm : Γ[i]? = some m) (hu : m.mut = true) (hd : ρ[i]? = some (some d)) (hc : cellD d = true) :
    ∃ p o, σ[i]? = some (some (.ref p)) ∧ H p = some o ∧ cont K mg F d o ∧ F p = none := by
  obtain ⟨v, h1, h2⟩ := r.slot i m d hm hd
  have c : Cell K mg H F v d := by
    cases m with
    | own => exact h2
    | io q => exact h2.2.2
    | fz => cases hu
    | brw => cases hu
    | xc a c x => cases hu
  unfold Cell at c
  rw [if_pos hc] at c
  obtain ⟨p, o, e, k1, k2, k3⟩ := c
  subst e
  exact ⟨p, o, h1, k1, k2, k3⟩
theorem ownAt_set (hd : ρ[i]? = some (some d)) (hc : cellD d = true) (hc' : cellD d' = true) {j : Nat} {q : Addr} (h : OwnAt Γ (ρ.set i (some d')) σ j q) : OwnAt Γ ρ σ j q := by
  obtain ⟨m', e, g1, g2, g3, g4, g5⟩ := h
  rcases set_get g3 with ⟨z, _, _⟩ | ⟨z, g3⟩
  · subst z; exact ⟨m', d, g1, g2, hd, hc, g5⟩
  · exact ⟨m', e, g1, g2, g3, g4, g5⟩
theorem Rel.upd (r : Rel K mg Γ ρ σ H F) (hm : Γ[i]? = some m) (hu : m.mut = true) (hd : ρ[i]? = some (some d)) (hc : cellD d = true) (hp : σ[i]? = some (some (.ref p))) (ho : H p = some o) (hf : F p = none) (hc' : cellD d' = true) (ct : cont K mg F d' o') :
    Rel K mg Γ (ρ.set i (some d')) σ (L2.upd H p o') F ∧ Evo (Own Γ ρ σ) H F (Own Γ (ρ.set i (some d')) σ) (L2.upd H p o') F := by
  have own : OwnAt Γ ρ σ i p := ⟨m, d, hm, hu, hd, hc, hp⟩
  have li : i < ρ.length := by
    rcases Nat.lt_or_ge i ρ.length with q | q
    · exact q
    · rw [List.getElem?_eq_none q] at hd; cases hd
  have brw1 : ∀ j q, BrwAt Γ (ρ.set i (some d')) σ j q → BrwAt Γ ρ σ j q := by
    rintro j q ⟨e, g1, g3, g4, g5⟩
    rcases set_get g3 with ⟨z, _, _⟩ | ⟨z, g3⟩
    · subst z; rw [hm] at g1; cases g1; cases hu
    · exact ⟨e, g1, g3, g4, g5⟩
  have sf : Same F (L2.upd H p o') := fun b x e => by rw [upd_ne (ne_of_none e hf)]; exact r.sub _ _ e
  refine ⟨⟨by rw [List.length_set]; exact r.lr, r.lg, fun j m' e g1 g2 => ?_, fun a b q ga gb => r.inj a b q (ownAt_set hd hc hc' ga) (ownAt_set hd hc hc' gb), sf⟩, Same.refl _, sf, fun q u e1 e2 e3 => ?_, fun q e => ?_, fun q ⟨j, hj⟩ => .inl ⟨j, ownAt_set hd hc hc' hj⟩, fun j q hj => brw1 j q hj⟩
  · rcases set_get g2 with ⟨z, z2, _⟩ | ⟨z, g2⟩
    · subst z; cases z2
      rw [hm] at g1; cases g1
      have cl : Cell K mg (L2.upd H p o') F (.ref p) d' := by unfold Cell; rw [if_pos hc']; exact ⟨p, o', rfl, upd_same, ct, hf⟩
      refine ⟨_, hp, ?_⟩
      cases m with
      | own => exact cl
      | io q =>
        obtain ⟨v, k1, k2⟩ := r.slot i _ d hm hd
        rw [hp] at k1; cases k1
        exact ⟨k2.1, hc', cl⟩
      | fz => cases hu
      | brw => cases hu
      | xc a c x => cases hu
    · obtain ⟨v, k1, k2⟩ := r.slot j m' e g1 g2
      refine ⟨v, k1, ?_⟩
      have other : ∀ {v : V}, σ[j]? = some (some v) → m'.mut = true → Cell K mg H F v e → Cell K mg (L2.upd H p o') F v e := fun {v} k1 mu c => by
        unfold Cell at c ⊢
        split
        · rename_i h
          rw [if_pos h] at c
          obtain ⟨q, u, e1, e2, e3, e4⟩ := c
          subst e1
          refine ⟨q, u, rfl, ?_, e3, e4⟩
          rw [upd_ne (fun x => z (r.inj i j p own ⟨m', e, g1, mu, g2, h, by rw [k1, x]⟩))]
          exact e2
        · rename_i h
          rw [if_neg h] at c
          exact c
      cases m' with
      | xc a c x => exact k2
      | fz => exact k2
      | own => exact other k1 rfl k2
      | io q => exact ⟨k2.1, k2.2.1, other k1 rfl k2.2.2⟩
      | brw =>
        have k2 : RdN K mg (Own Γ ρ σ) H F v e := k2
        show RdN K mg _ (L2.upd H p o') F v e
        unfold RdN at k2 ⊢
        split
        · rename_i h
          rw [if_pos h] at k2
          obtain ⟨q, u, e1, e2, e3, e4⟩ := k2
          have ne : q ≠ p := fun x => by
            subst x
            rcases e4 with e4 | ⟨_, e4⟩
            · rw [hf] at e4; cases e4
            · exact e4 ⟨i, own⟩
          refine ⟨q, u, e1, by rw [upd_ne ne]; exact e2, e3, ?_⟩
          rcases e4 with e4 | ⟨e4, e5⟩
          · exact .inl e4
          · exact .inr ⟨e4, fun ⟨k, hk⟩ => e5 ⟨k, ownAt_set hd hc hc' hk⟩⟩
        · rename_i h
          rw [if_neg h] at k2
          exact k2
  · have ne : q ≠ p := fun x => by subst x; exact e3 ⟨i, own⟩
    rw [upd_ne ne]
    exact ⟨e1, e2⟩
  · by_cases hq : q = p
    · subst hq; rw [upd_same] at e; cases e
    · rw [upd_ne hq] at e; exact e
end

section
variable {X : Cx} {Γ Γ' Γ1 Γ2 Γ3 : Gm} {S : SC} {W : WE} {st : Stmt} {sts rest : List Stmt} {o e a b c : Expr} {es : List Expr} {pos pos' apos cpos : Pos} {m : Md} {ev fi fe : Ev} {et : Et} {as : List Arg} {i : Nat} {name : Str} {id : String} {r : V → List V → Hp → VK → Prop}
def isLst : D → Bool
  | .lst _ => true
  | _ => false
/-- a method that changes the list: its new content and the answer -/
def MtF (K : PySem.W.Frag) (mg : Str → Option Value) (f : List D → List D → Option (List D × D)) (r : V → List V → Hp → VK → Prop) : Prop :=
  ∀ H F p ws l ds vs l' u Q, Same F H → H p = some (.lst ws) → reps K mg F l ws → reps K mg F ds vs → f l ds = some (l', u) → (∀ ws' v, reps K mg F l' ws' → rep K mg F u v → Q v (L2.upd H p (.lst ws'))) → r (.ref p) vs H Q
def eMut (i : Nat) (f : List D → List D → Option (List D × D)) (as : List Arg) : Ev := fun ρ => (gv ρ i).bind fun d0 => if isLst d0 = true then (Arg.runs as ρ).bind fun p => (Arg.fins as p.1 p.2).bind fun ds => (gv p.2 i).bind fun d => match d with
  | .lst l => (opt (f l ds)).bind fun q => .ok (q.2, p.2.set i (some (.lst q.1)))
  | _ => .bad
  else .bad
theorem mut_core {f : List D → List D → Option (List D × D)} (hf : MtF X.K X.mg f r) (hm : Γ1[i]? = some m) (hu : m.mut = true) (hv : allVal as = true) {ρ1 : Env} {σ : St} {H0 F0 H F : Hp} {ρ0 : Env} {Q : VK} {ods : List (Option D)} {vs : List V} {v : V}
    (r1 : Rel X.K X.mg Γ1 ρ1 σ H F) (e1 : Evo (Own Γ ρ0 σ) H0 F0 (Own Γ1 ρ1 σ) H F) (b1 : AOks X.K X.mg as ods (Own Γ1 ρ1 σ) σ H F vs) (hs : σ[i]? = some (some v))
    (q : ((Arg.fins as ods ρ1).bind fun ds => (gv ρ1 i).bind fun d => match d with
      | .lst l => (opt (f l ds)).bind fun q => .ok (q.2, ρ1.set i (some (.lst q.1)))
      | _ => .bad).sat (fun r => ∀ v H' F', Evo (Own Γ ρ0 σ) H0 F0 (Own Γ1 r.2 σ) H' F' → Rel X.K X.mg Γ1 r.2 σ H' F' → ValOk X.K X.mg .fz (Own Γ1 r.2 σ) H0 H' F' v r.1 → Q v H') (exW W Γ ρ0 σ H0 F0)) : r v vs H Q := by
  obtain ⟨ds, hds, q⟩ := fins_sat q
  obtain ⟨d, hd, q⟩ := gv_sat (Res.sat_bind.mp q)
  cases d <;> first | exact q.elim | skip
  rename_i l
  obtain ⟨⟨l', u⟩, hl, q⟩ := opt_sat (Res.sat_bind.mp q)
  obtain ⟨p, ob, k1, k2, k3, k4⟩ := r1.ownAt hm hu hd rfl
  rw [k1] at hs; cases hs
  obtain ⟨ws, rfl, k5⟩ := k3
  refine hf H F p ws l ds vs l' u Q r1.sub k2 k5 ((b1.fin r1 hds).reps hv) hl fun ws' v w1 w2 => ?_
  obtain ⟨r2, e2⟩ := r1.upd (d' := .lst l') (o' := .lst ws') hm hu hd rfl k1 k2 k4 rfl ⟨ws', rfl, w1⟩
  exact q v _ F (e1.trans e2) r2 w2
theorem ve_mut {f : List D → List D → Option (List D × D)} (hf : MtF X.K X.mg f r) (slot : Slot "list" name id) (hty : typeOf (.builtin id) = pure (.type "method_descriptor")) (hr : MtR X id r) (ho : PE X o (tVar i)) (ha : VA X Γ Γ1 W (e :: es) as)
    (hm : Γ1[i]? = some m) (hu : m.mut = true) (hv : allVal as = true)
    (hbase : attributeBase o name X.env (eval o X.env) = eval o X.env := by rfl)
    (hfew : ((backTo cpos (starEach (e :: es) X.env)).all (fun x => !x.1) && (backToKw cpos (keywordEach [] X.env)).all (fun x => x.1.isSome)
      && decide ((e :: es).length + ([] : List Keyword).length + (if ([] : List Keyword).isEmpty then 0 else 1) < 30)) = true := by rfl)
    (hline : (apos.endLine == cpos.line) = true := by rfl) (hs : starEach (e :: es) X.env = (false, eval e X.env) :: starEach es X.env := by rfl) (hplain : (backTo cpos (starEach es X.env)).any (·.1) = false := by rfl) :
    VE X Γ Γ1 W (.Call (.Attribute o name apos) (e :: es) [] cpos) .fz (eMut i f as) :=
  peImp (pe_bm PySem.F.plainAttrs_list slot hty hr ho ha hbase hfew hline hs hplain) fun σ H Q ⟨ρ, F, r0, q⟩ => by
    obtain ⟨d0, e2, q⟩ := gv_sat (Res.sat_bind.mp q)
    by_cases hl : isLst d0 = true
    · rw [if_pos hl] at q
      cases d0 <;> first | (cases hl; done) | skip
      obtain ⟨v, h1, h2⟩ := r0.rdd e2
      obtain ⟨p, ws, rfl, h3, h4⟩ := h2.lst
      refine ⟨_, h1, .inl ⟨rfl, ws, .of h3⟩, ρ, F, r0, Res.sat_imp (Res.sat_bind.mp q) (fun z _ q vs H1 F1 ee r1 b1 => ?_) fun _ h => h⟩
      exact mut_core hf hm hu hv r1 ee b1 h1 q
    · rw [if_neg hl] at q; exact q.elim
theorem ve_mut0 {f : List D → List D → Option (List D × D)} (hf : MtF X.K X.mg f r) (slot : Slot "list" name id) (hty : typeOf (.builtin id) = pure (.type "method_descriptor")) (hr : MtR X id r) (ho : PE X o (tVar i))
    (hm : Γ[i]? = some m) (hu : m.mut = true)
    (hbase : attributeBase o name X.env (eval o X.env) = eval o X.env := by rfl) (hline : (apos.endLine == cpos.line) = true := by rfl) :
    VE X Γ Γ W (.Call (.Attribute o name apos) [] [] cpos) .fz (eMut i f []) :=
  peImp (pe_bm0 PySem.F.plainAttrs_list slot hty hr ho hbase hline) fun σ H Q ⟨ρ, F, r0, q⟩ => by
    obtain ⟨d0, e2, q⟩ := gv_sat (Res.sat_bind.mp q)
    by_cases hl : isLst d0 = true
    · rw [if_pos hl] at q
      cases d0 <;> first | (cases hl; done) | skip
      obtain ⟨v, h1, h2⟩ := r0.rdd e2
      obtain ⟨p, ws, rfl, h3, h4⟩ := h2.lst
      exact ⟨_, h1, .inl ⟨rfl, ws, .of h3⟩, mut_core (as := []) (ods := []) (vs := []) hf hm hu rfl r0 (Evo.refl r0.sub) ⟨rfl, rfl⟩ h1 q⟩
    · rw [if_neg hl] at q; exact q.elim
def mAppend : List D → List D → Option (List D × D)
  | l, [d] => if l.length < 16777216 then some (l ++ [d], .non) else none
  | _, _ => none
theorem m_append {K : PySem.W.Frag} {mg : Str → Option Value} : MtF K mg mAppend rAppend := by
  intro H F p ws l ds vs l' u Q s hp rl rd hf q
  unfold mAppend at hf
  split at hf
  · split at hf <;> cases hf
    rename_i d hl
    simp only [reps] at rd
    obtain ⟨v, w, rfl, h1, rfl⟩ := rd
    exact ⟨p, ws, v, rfl, rfl, hp, by rw [sizeLine_eq, reps_length rl]; exact hl, q _ _ (reps_append rl (reps_one h1)) rfl⟩
  · cases hf
def mReverse : List D → List D → Option (List D × D)
  | l, [] => some (l.reverse, .non)
  | _, _ => none
theorem m_reverse {K : PySem.W.Frag} {mg : Str → Option Value} : MtF K mg mReverse rReverse := by
  intro H F p ws l ds vs l' u Q s hp rl rd hf q
  unfold mReverse at hf
  split at hf <;> cases hf
  simp only [reps] at rd
  subst rd
  exact ⟨p, ws, rfl, rfl, hp, q _ _ (reps_reverse rl) rfl⟩
theorem reps_dropLast {K : PySem.W.Frag} {mg : Str → Option Value} {F : Hp} {l : List D} {vs : List V} (h : reps K mg F l vs) : reps K mg F l.dropLast vs.dropLast := by
  rw [List.dropLast_eq_take, List.dropLast_eq_take, reps_length h]
  exact reps_take _ h
def mPop : List D → List D → Option (List D × D)
  | l, [] => l[l.length - 1]?.map fun d => (l.dropLast, d)
  | _, _ => none
theorem m_pop {K : PySem.W.Frag} {mg : Str → Option Value} : MtF K mg mPop rPop := by
  intro H F p ws l ds vs l' u Q s hp rl rd hf q
  cases ds with
  | cons _ _ => cases hf
  | nil =>
    simp only [mPop] at hf
    cases hd : l[l.length - 1]? with
    | none => rw [hd] at hf; cases hf
    | some d =>
      rw [hd] at hf; cases hf
      simp only [reps] at rd
      subst rd
      obtain ⟨v, h1, h2⟩ := reps_get rl hd
      exact ⟨p, ws, v, rfl, rfl, hp, by rw [reps_length rl]; exact h1, q _ _ (reps_dropLast rl) h2⟩

/-! ### x[k] = e, x[k] op= e -/
def sSetIx (i : Nat) (fi fe : Ev) : Es := fun ρ => (fe ρ).bind fun r => (gv r.2 i).bind fun _ => (fi r.2).bind fun k => (gv k.2 i).bind fun d => match d, k.1 with
  | .lst l, .int n => match ixN l.length n with
    | some j => .ok (.next (k.2.set i (some (.lst (l.set j r.1)))))
    | none => .bad
  | _, _ => .bad
theorem set_core {ρ : Env} {σ : St} {H F : Hp} {n : Int} {j : Nat} {l : List D} {d : D} {v w : V} {Q : Hp → Prop} (r : Rel X.K X.mg Γ ρ σ H F) (hm : Γ[i]? = some m) (hu : m.mut = true) (hd : ρ[i]? = some (some (.lst l))) (hj : ixN l.length n = some j) (rd : rep X.K X.mg F d v)
    (hs : σ[i]? = some (some w)) (q : ∀ H', Rel X.K X.mg Γ (ρ.set i (some (.lst (l.set j d)))) σ H' F → Evo (Own Γ ρ σ) H F (Own Γ (ρ.set i (some (.lst (l.set j d)))) σ) H' F → Q H') : rSetL w (.int n) v H Q := by
  obtain ⟨p, ob, k1, k2, k3, k4⟩ := r.ownAt hm hu hd rfl
  rw [k1] at hs; cases hs
  obtain ⟨ws, rfl, k5⟩ := k3
  obtain ⟨r2, e2⟩ := r.upd (d' := .lst (l.set j d)) (o' := .lst (ws.set j v)) hm hu hd rfl k1 k2 k4 rfl ⟨_, rfl, reps_set j k5 rd⟩
  exact ⟨p, ws, n, j, rfl, rfl, k2, by rw [reps_length k5]; exact hj, q _ r2 e2⟩
theorem vs_setIx {tg : Expr} (he : VE X Γ Γ1 W e .fz fe) (hp : PG X tg (gSub (tVar i) (trE X Γ1 Γ2 W .fz fi) rSetL)) (hm : Γ2[i]? = some m) (hu : m.mut = true)
    (hs : swapsWithSole [tg] e pos.line X.env = pure false := by rfl) (hw : swappedStores [tg] e X.env = pure none := by rfl) (h1 : (assignEach [tg] X.env).map (·.2) = [assign tg X.env] := by rfl) : VS X Γ Γ2 S W (.Assign [tg] e pos) (sSetIx i fi fe) :=
  psImp (ps_asg he hp hs hw h1) fun D σ H ⟨ρ, F, r, q⟩ => ⟨ρ, F, r, Res.sat_imp (Res.sat_bind.mp q) (fun z _ q v H1 F1 e1 r1 vo => by
    obtain ⟨d0, hd0, q⟩ := gv_sat (Res.sat_bind.mp q)
    obtain ⟨w, h1, _⟩ := r1.rdd hd0
    refine ⟨w, h1, z.2, F1, r1, Res.sat_imp (Res.sat_bind.mp q) (fun k _ q u H2 F2 e2 r2 ko => ?_) fun _ h => h.ex.evo e1⟩
    obtain ⟨d, hd, q⟩ := gv_sat (Res.sat_bind.mp q)
    cases d <;> first | exact q.elim | skip
    rename_i l
    cases hk : k.1 <;> rw [hk] at q <;> first | exact q.elim | skip
    rename_i n
    rw [hk] at ko
    have ko : u = .int n := ko
    subst ko
    dsimp only at q
    split at q
    · rename_i j hj
      exact set_core r2 hm hu hd hj (rep_mono e2.sf vo) h1 fun H3 r3 e3 => q σ H3 F2 ((e1.trans e2).trans e3) Keep.refl r3
    · exact q.elim) fun _ h => h.ex⟩
theorem pg_list : PGet X (rIxL X.K) := by
  intro pins s σ H x y v u Q I rx ry h
  obtain ⟨p, xs, i, z, rfl, rfl, hq, he, q⟩ := h
  cases rx
  obtain ⟨t, rfl⟩ := ry
  obtain ⟨its, r, pl, hz⟩ := I.list hq
  obtain ⟨j, h1, h2, h3, h4, h5⟩ := atI_get he
  obtain ⟨w, ew, rw'⟩ := r.get h2
  have hl := r.length
  have hn := line63
  have fin : EP X pins σ Q w s := ⟨z, H, I, rw', q⟩
  by_cases h0 : 0 ≤ i
  · have hj : i.toNat = j := by
      rw [seqIndex_of h0 h5] at h1
      exact Option.some.inj h1
    exact wpAny_getItem_list pl.isList h0 (by omega) (by rw [hj]; simpa using ew) fin
  · have hj : (i + (its.toArray.size : Int)).toNat = j := by
      rw [seqIndex_neg (by omega) h4] at h1
      rw [List.size_toArray, ← hl]
      exact Option.some.inj h1
    exact wpAny_getItem_list_neg pl.isList (by omega) (by rw [List.size_toArray] <;> omega) (by omega) (by rw [hj]; simpa using ew) fin
def sAugIx (i : Nat) (g : Int → Int → Int) (fi fe : Ev) : Es := fun ρ => (gv ρ i).bind fun _ => (fi ρ).bind fun k => (gv k.2 i).bind fun d0 => match d0, k.1 with
  | .lst l0, .int n => match atI l0 n with
    | some (.int x) => (fe k.2).bind fun r => match r.1 with
      | .int y => (gv r.2 i).bind fun d => match d with
        | .lst l => match ixN l.length n with
          | some j => .ok (.next (r.2.set i (some (.lst (l.set j (.int (g x y)))))))
          | none => .bad
        | _ => .bad
      | _ => .bad
    | _ => .bad
  | _, _ => .bad
theorem vs_augIx {g : Int → Int → Int} (hp : PS X st (tAugS (tVar i) (trE X Γ Γ1 W .fz fi) (trE X Γ1 Γ2 W .fz fe) (rIxL X.K) (ipI g) rSetL)) (hm : Γ2[i]? = some m) (hu : m.mut = true) : VS X Γ Γ2 S W st (sAugIx i g fi fe) :=
  psImp hp fun D σ H ⟨ρ, F, r, q⟩ => by
    obtain ⟨d00, hd00, q⟩ := gv_sat (Res.sat_bind.mp q)
    obtain ⟨w, h1, _⟩ := r.rdd hd00
    refine ⟨w, h1, ρ, F, r, Res.sat_imp (Res.sat_bind.mp q) (fun k _ q u H1 F1 e1 r1 ko => ?_) fun _ h => h.ex⟩
    obtain ⟨d0, hd0, q⟩ := gv_sat (Res.sat_bind.mp q)
    cases d0 <;> first | exact q.elim | skip
    rename_i l0
    cases hk : k.1 <;> rw [hk] at q <;> first | exact q.elim | skip
    rename_i n
    rw [hk] at ko
    have ko : u = .int n := ko
    subst ko
    dsimp only at q
    split at q <;> first | exact q.elim | skip
    rename_i x hx
    obtain ⟨w', h1', rd0⟩ := r1.rdd hd0
    rw [h1] at h1'; cases h1'
    obtain ⟨p, vs, rfl, h2, h3⟩ := rd0.lst
    obtain ⟨y0, h4, h5⟩ := atI_reps h3 hx
    simp only [rep] at h5
    subst h5
    refine ⟨p, vs, n, _, rfl, rfl, .of h2, h4, k.2, F1, r1, Res.sat_imp (Res.sat_bind.mp q) (fun z _ q v H2 F2 e2 r2 vo => ?_) fun _ h => h.ex.evo e1⟩
    cases hz : z.1 <;> rw [hz] at q <;> first | exact q.elim | skip
    rename_i y
    rw [hz] at vo
    have vo : v = .int y := vo
    subst vo
    obtain ⟨d, hd, q⟩ := gv_sat (Res.sat_bind.mp q)
    cases d <;> first | exact q.elim | skip
    rename_i l
    dsimp only at q
    split at q
    · rename_i j hj
      exact ⟨x, y, rfl, rfl, set_core r2 hm hu hd hj (d := .int (g x y)) (by simp only [rep]) h1 fun H3 r3 e3 => q σ H3 F2 ((e1.trans e2).trans e3) Keep.refl r3⟩
    · exact q.elim
/-- x op= e, x a slot: ints, texts -/
def sAug (i : Nat) (f : D → D → Option D) (fe : Ev) : Es := fun ρ => (gv ρ i).bind fun x => (fe ρ).bind fun r => (opt (f x r.1)).bind fun d => .ok (.next (r.2.set i (some d)))
def dAddI : D → D → Option D
  | .int i, .int j => some (.int (i + j))
  | .str a, .str b => if a.length + b.length ≤ 16777216 then some (.str (a ++ b)) else none
  | _, _ => none
theorem vs_aug {f : D → D → Option D} {op : Operator} {x : Str} {t : TIp} (ho : PIp X op t) (hf : OpF X.K X.mg f t .fz) (hat : ∀ a b d, f a b = some d → cellD a = false ∧ cellD d = false) (hN : X.N.Nodup) (hi : X.N[i]? = some x) (hx : Loc X.env.scope x) (he : VE X Γ Γ1 W e .fz fe) (hl : i < Γ1.length) (ha : i ∈ S.As)
    (hf' : X.fn x = true ∨ X.env.scope.names.lookup x = some .local := by first | exact .inl rfl | exact .inr rfl | assumption) : VS X Γ (Γ1.set i .fz) S W (.AugAssign (.Name x pos') op e pos) (sAug i f fe) :=
  psImp (ps_aug hN hi hx he ho hf') fun D σ H ⟨ρ, F, r, q⟩ => by
    obtain ⟨d0, hd0, q⟩ := gv_sat (Res.sat_bind.mp q)
    obtain ⟨w, h1, h2⟩ := r.rdd hd0
    refine ⟨w, h1, ρ, F, r, Res.sat_imp (Res.sat_bind.mp q) (fun z _ q v H1 F1 e1 r1 vo => ?_) fun _ h => h.ex⟩
    obtain ⟨d, hd, q⟩ := opt_sat (Res.sat_bind.mp q)
    obtain ⟨c1, c2⟩ := hat _ _ _ hd
    have h2' : Rdd X.K X.mg H1 F1 w d0 := by
      have := rep_mono e1.sf (h2.of_rep c1)
      exact rep.rdd r1.sub this
    refine hf H1 F1 w v d0 z.1 d _ r1.sub h2' (rep.rdd r1.sub vo) hd fun u H2 F2 g n => ?_
    obtain ⟨r2, e2⟩ := (r1.grow g).setM hl (e1.trans g.evo) r.brwThere (m := .fz) n (.inl rfl)
    exact q _ H2 F2 e2 (Keep.set ha) r2
theorem f_addI {K : PySem.W.Frag} {mg : Str → Option Value} : OpF K mg dAddI (fun x y H Q => rI0 (fun i j => .int (i + j)) x y H Q ∨ ∃ i j, x = .str i ∧ y = .str j ∧ i.length + j.length ≤ sizeLine ∧ Q (.str (i ++ j)) H) .fz := by
  intro H F v w a b d Q s ra rb hf q
  unfold dAddI at hf
  split at hf
  · cases hf
    exact .inl ⟨_, _, ra.int, rb.int, q _ H F (Grow.refl s) (.atom rfl rfl)⟩
  · split at hf <;> cases hf
    rename_i x y h
    refine .inr ⟨_, _, ra.str, rb.str, by rw [sizeLine_eq]; simpa [Str.length] using h, ?_⟩
    rw [str_append]
    exact q _ H F (Grow.refl s) (.atom rfl (by simp only [rep]))
  · cases hf
theorem ip_addI : PIp X .Add (fun x y H Q => rI0 (fun i j => .int (i + j)) x y H Q ∨ ∃ i j, x = .str i ∧ y = .str j ∧ i.length + j.length ≤ sizeLine ∧ Q (.str (i ++ j)) H) := iop_add.or iop_add_str
theorem at_addI : ∀ a b d, dAddI a b = some d → cellD a = false ∧ cellD d = false := by
  intro a b d h
  unfold dAddI at h
  split at h
  · cases h; exact ⟨rfl, rfl⟩
  · split at h <;> cases h; exact ⟨rfl, rfl⟩
  · cases h
theorem ip_subI : PIp X .Sub (rI0 fun i j => .int (i - j)) := iop_sub
theorem at_sub : ∀ a b d, dSub a b = some d → cellD a = false ∧ cellD d = false := by
  intro a b d h
  unfold dSub at h
  split at h <;> cases h; exact ⟨rfl, rfl⟩

/-! ### targets -/
inductive Tg where
  | name (i : Nat) | tup (l : List Tg)
mutual
def bindT : Tg → D → Env → Option Env
  | .name i, d, ρ => some (ρ.set i (some d))
  | .tup l, .tup ds, ρ => bindTs l ds ρ
  | .tup _, _, _ => none
def bindTs : List Tg → List D → Env → Option Env
  | [], [], ρ => some ρ
  | t :: ts, d :: ds, ρ => (bindT t d ρ).bind fun ρ' => bindTs ts ds ρ'
  | _, _, _ => none
end
/-- after a target's store: the same footprint -/
def Moved (X : Cx) (Γ : Gm) (As : List Nat) (ρ : Env) (σ : St) (ρ' : Env) (σ' : St) (H F : Hp) : Prop :=
  Rel X.K X.mg Γ ρ' σ' H F ∧ Evo (Own Γ ρ σ) H F (Own Γ ρ' σ') H F ∧ Keep As σ σ'
def trG (X : Cx) (Γ : Gm) (As : List Nat) (tg : Tg) : TG := fun v σ H Q => ∃ ρ F d ρ', Rel X.K X.mg Γ ρ σ H F ∧ rep X.K X.mg F d v ∧ bindT tg d ρ = some ρ' ∧ ∀ σ', Moved X Γ As ρ σ ρ' σ' H F → Q σ' H
abbrev VG (X : Cx) (Γ : Gm) (As : List Nat) (tg : Expr) (t : Tg) : Prop := PG X tg (trG X Γ As t)
def trGs (X : Cx) (Γ : Gm) (As : List Nat) (tg : List Tg) : TGs := fun vs σ H Q => ∃ ρ F ds ρ', Rel X.K X.mg Γ ρ σ H F ∧ reps X.K X.mg F ds vs ∧ bindTs tg ds ρ = some ρ' ∧ ∀ σ', Moved X Γ As ρ σ ρ' σ' H F → Q σ' H
abbrev VGs (X : Cx) (Γ : Gm) (As : List Nat) (tg : List Expr) (t : List Tg) : Prop := PGs X tg (trGs X Γ As t)
theorem pgImp {tg : Expr} {t t' : TG} (h : PG X tg t) (i : ∀ v σ H Q, t' v σ H Q → t v σ H Q) : PG X tg t' := ⟨fun pins s σ H v u Q I r q => h.run pins s σ H v u Q I r (i v σ H Q q)⟩
theorem pgsImp {tg : List Expr} {t t' : TGs} (h : PGs X tg t) (i : ∀ v σ H Q, t' v σ H Q → t v σ H Q) : PGs X tg t' := ⟨fun pins s σ H v u Q I r q => h.run pins s σ H v u Q I r (i v σ H Q q)⟩
theorem set_self {l : Gm} {i : Nat} {m : Md} (h : l[i]? = some m) : l.set i m = l := by
  apply List.ext_getElem?
  intro j
  by_cases e : i = j
  · subst e
    have hl : i < l.length := by
      rcases Nat.lt_or_ge i l.length with q | q
      · exact q
      · rw [List.getElem?_eq_none q] at h; cases h
    rw [getset hl, h]
  · rw [List.getElem?_set_ne e]
theorem vg_name {i : Nat} {x : Str} {As : List Nat} (hN : X.N.Nodup) (hi : X.N[i]? = some x) (hx : Loc X.env.scope x) (hm : Γ[i]? = some .fz) (ha : i ∈ As) (hf : X.fn x = true ∨ X.env.scope.names.lookup x = some .local := by first | exact .inl rfl | exact .inr rfl | assumption) : VG X Γ As (.Name x pos) (.name i) :=
  pgImp (pg_name hN hi hx hf) fun v σ H Q ⟨ρ, F, d, ρ', r, rd, hb, q⟩ => by
    simp only [bindT] at hb
    cases hb
    have hl : i < Γ.length := by
      rcases Nat.lt_or_ge i Γ.length with q | q
      · exact q
      · rw [List.getElem?_eq_none q] at hm; cases hm
    obtain ⟨r2, e2⟩ := r.setM (m := .fz) (v := v) (d := d) hl (Evo.refl r.sub) r.brwThere rd (.inl rfl)
    rw [set_self hm] at r2 e2
    exact q _ ⟨r2, e2, Keep.set ha⟩
theorem vgs_nil {As : List Nat} : VGs X Γ As [] [] := pgsImp pgs_nil fun vs σ H Q ⟨ρ, F, ds, ρ', r, rd, hb, q⟩ => by
  cases ds with
  | cons _ _ => simp only [bindTs] at hb; cases hb
  | nil =>
    simp only [bindTs] at hb; cases hb
    simp only [reps] at rd
    exact ⟨rd, q σ ⟨r, Evo.refl r.sub, Keep.refl⟩⟩
theorem vgs_cons {As : List Nat} {t : Tg} {ts : List Tg} (h1 : VG X Γ As e t) (h2 : VGs X Γ As es ts) (hs : (assignEach (e :: es) X.env).map (·.2) = assign e X.env :: (assignEach es X.env).map (·.2) := by rfl) : VGs X Γ As (e :: es) (t :: ts) :=
  pgsImp (pgs_cons h1 h2 hs) fun vs σ H Q ⟨ρ, F, ds, ρ', r, rd, hb, q⟩ => by
    cases ds with
    | nil => simp only [bindTs] at hb; cases hb
    | cons d ds =>
      simp only [bindTs] at hb
      cases h : bindT t d ρ with
      | none => rw [h] at hb; cases hb
      | some ρ1 =>
        rw [h] at hb
        simp only [reps] at rd
        obtain ⟨v, w, rfl, k1, k2⟩ := rd
        refine ⟨v, w, rfl, ρ, F, d, ρ1, r, k1, h, fun σ1 ⟨m1, m2, m3⟩ => ⟨ρ1, F, ds, ρ', m1, k2, hb, fun σ2 ⟨n1, n2, n3⟩ => q σ2 ⟨n1, m2.trans n2, m3.trans n3⟩⟩⟩
theorem vg_tup {As : List Nat} {k : Nat} {ts : List Tg} {n : Nat} (hc : X.calm = true) (h : VGs X Γ As es ts) (hn : (assignEach es X.env).length = n := by rfl) (hl : ts.length = n := by rfl) (hst : (assignEach es X.env).findIdx? (·.1) = none := by rfl) : VG X Γ As (.Tuple es k pos) (.tup ts) :=
  pgImp (pg_tup hc h hn hst) fun v σ H Q ⟨ρ, F, d, ρ', r, rd, hb, q⟩ => by
    cases d <;> first | (simp only [bindT] at hb; cases hb; done) | skip
    rename_i ds
    simp only [rep] at rd
    obtain ⟨p, vs, rfl, h1, h2⟩ := rd
    simp only [bindT] at hb
    have len : ∀ (ts : List Tg) (ds : List D) (ρ ρ' : Env), bindTs ts ds ρ = some ρ' → ds.length = ts.length := by
      intro ts
      induction ts with
      | nil => intro ds ρ ρ' h; cases ds with
        | nil => rfl
        | cons _ _ => simp only [bindTs] at h; cases h
      | cons t ts ih => intro ds ρ ρ' h; cases ds with
        | nil => simp only [bindTs] at h; cases h
        | cons d ds =>
          simp only [bindTs] at h
          cases h2 : bindT t d ρ with
          | none => rw [h2] at h; cases h
          | some ρ1 => rw [h2] at h; simp only [List.length_cons, ih ds _ _ h]
    exact ⟨p, vs, rfl, Same.sqT r.sub h1, by rw [reps_length h2, len ts ds _ _ hb, hl], ρ, F, ds, ρ', r, h2, hb, q⟩
/-- a, b = e -/
def sAsg (t : Tg) (f : Ev) : Es := fun ρ => (f ρ).bind fun r => (opt (bindT t r.1 r.2)).bind fun ρ' => .ok (.next ρ')
theorem vs_asg {tg : Expr} {t : Tg} (he : VE X Γ Γ1 W e .fz ev) (hg : VG X Γ1 S.As tg t) (hs : swapsWithSole [tg] e pos.line X.env = pure false := by rfl) (hw : swappedStores [tg] e X.env = pure none := by rfl)
    (h1 : (assignEach [tg] X.env).map (·.2) = [assign tg X.env] := by rfl) : VS X Γ Γ1 S W (.Assign [tg] e pos) (sAsg t ev) :=
  psImp (ps_asg he hg hs hw h1) fun D σ H ⟨ρ, F, r, q⟩ => ⟨ρ, F, r, Res.sat_imp (Res.sat_bind.mp q) (fun z _ q v H1 F1 e1 r1 vo => by
    obtain ⟨ρ', hb, q⟩ := opt_sat (Res.sat_bind.mp q)
    exact ⟨z.2, F1, z.1, ρ', r1, vo, hb, fun σ' ⟨m1, m2, m3⟩ => q σ' H1 F1 (e1.trans m2) m3 m1⟩) fun _ h => h.ex⟩
end
/-! ### enumerate of a list or a text -/
section
open Builtin
def IteS (x : Str) : It :=
  ⟨fun i _ => i < x.cps.size, fun i H v H' => ∃ T c, v = .ref T ∧ H T = none ∧ H' = upd H T (.tup [.int (i : Nat), .str ⟨#[c]⟩]) ∧ x.cps[i]? = some c, fun i _ => x.cps.size ≤ i⟩
theorem turn_enumS {P : Program} {w : World} {K : PySem.W.Frag} {elts : List Expr} {kk : Nat} {tpos : Pos} (x : Str) (t : Tok) (e it : Addr) (ty : String) (hty : ty = "str_ascii_iterator" ∨ ty = "str_iterator") :
    Turn P w K (.Tuple elts kk tpos) (IteS x) [e, it] e (fun i h => (∃ old, IsEnum h e it ((i : Nat) : Int) old) ∧ h.IsStrIter it ty x t i ∧ e ≠ it) where
  mem := by simp
  obj := fun i h st b hb => by
    obtain ⟨⟨old, he⟩, ⟨o, ho, hc, hd⟩, _⟩ := st
    have e' : b = e ∨ b = it := by simpa using hb
    rcases e' with z | z
    · rw [z]; exact ⟨_, he, fun v q => nomatch q⟩
    · rw [z]; exact ⟨o, ho, fun v q => by rw [hd] at q; cases q⟩
  keep := fun i h h' st k => let ⟨⟨old, he⟩, ⟨o, ho, r⟩, hne⟩ := st; ⟨⟨old, k e (by simp) _ he⟩, ⟨o, k it (by simp) o ho, r⟩, hne⟩
  item := by
    intro X hP hw hK hc i pins s σ H E I hf st hg
    subst hP hw hK
    obtain ⟨⟨old, he⟩, hit, hne⟩ := st
    have hel : e < s.heap.objs.size := Heap.lt_size he
    have hil : it < s.heap.objs.size := by obtain ⟨_, q, _⟩ := hit; exact Heap.lt_size q
    have D : Draws X.prog X.w X.A.in1 it [it] x.cps.size (fun i v => ∃ c u, x.cps[i]? = some c ∧ v = .str ⟨#[c]⟩ u) (fun i h => h.IsStrIter it ty x t i) := by
      rcases hty with z | z
      · subst z; exact Draws.strAscii (A := X.A.in1) (I.ok.hd hc) it x t
      · subst z; exact Draws.strWide (A := X.A.in1) (I.ok.hd hc) it x t
    refine wpAny_pyNext_enum_itemD D he hit hg hne (by simpa using hne) fun u h' tk hP ho hit' hT hsz hk => ?_
    obtain ⟨c, ut, hx, rfl⟩ := hP
    refine ⟨_, rfl, wpAny_letOwnedTupleGo_enum (s := { s with heap := h', toks := tk + 1 }) ho fun h'' he' sb => ?_⟩
    have hT2 : h''.get? s.heap.objs.size = some { cls := .type "tuple", data := .seq #[.int i tk, .str ⟨#[c]⟩ ut] } := (sb.2 _ (Nat.ne_of_gt hel)).trans hT
    have new : ObjOk X.prog X.w (upd H s.heap.objs.size (.tup [.int (i : Nat), .str ⟨#[c]⟩])) h'' s.heap.objs.size (.tup [.int (i : Nat), .str ⟨#[c]⟩]) :=
      ⟨by show 2 ≤ sizeLine; decide, [.int i tk, .str ⟨#[c]⟩ ut], .cons ⟨_, rfl⟩ (.cons ⟨_, rfl⟩ .nil), ⟨_, hT2, rfl, _, rfl⟩⟩
    have I1 : Inv X pins σ (upd H s.heap.objs.size (.tup [.int (i : Nat), .str ⟨#[c]⟩])) { s with heap := h'', toks := tk + 1 } :=
      I.turnedNew (ch := [e, it]) (fun b ob hb q => (sb.2 b (fun z => hb (by simp [z]))).trans (hk b ob (fun z => hb (by simp [z])) (fun z => hb (by simp [z])) q)) hf (Nat.le_refl _) new
    have hit2 : h''.IsStrIter it ty x t (i + 1) := by
      obtain ⟨o, ho2, r⟩ := hit'
      exact ⟨o, (sb.2 it (Ne.symm hne)).trans ho2, r⟩
    refine ⟨.ref s.heap.objs.size, _, I1, rfl, ⟨_, c, rfl, I.hok.fresh (Nat.le_refl _), rfl, hx⟩, ⟨⟨.str ⟨#[c]⟩ ut, ?_⟩, hit2, hne⟩, fun b hb => ?_⟩
    · have e1 : ((i + 1 : Nat) : Int) = (i : Int) + 1 := by omega
      rw [e1]; exact he'
    · have hb' : b < s.heap.objs.size := by
        have e' : b = e ∨ b = it := by simpa using hb
        rcases e' with z | z
        · rw [z]; exact hel
        · rw [z]; exact hil
      rw [upd_ne (Nat.ne_of_lt hb')]
      exact (hf b hb).1
  done := by
    intro X hP hw hK hc i pins s σ H E I hf st hg
    subst hP hw hK
    obtain ⟨⟨old, he⟩, hit, hne⟩ := st
    obtain ⟨f0, f1, f2, f3, f4, f5⟩ := hf it (by simp)
    have hx : x.cps[i]? = none := Array.getElem?_eq_none hg
    have hT : s.TypeIs (.ref e) "enumerate" := ⟨_, he, rfl⟩
    have fin : ∀ h', Heap.ExtBut it s.heap h' → _ := fun h' eb => (⟨rfl, I.turned (t' := s.toks) (fun b o hb q => eb b o hb q) f0 f1 f3 f4 f5⟩ : (none : Option Value) = none ∧ Inv X pins σ H { s with heap := h', toks := s.toks })
    unfold pyNext
    refine wpAny_bind (wpAny_attempt (wpAny_callSpecial?_slot (name := Str.ofString "__next__") hT F.slot_enumerate_next
      (wpAny_call_entry F.slot_enumerate_next hT F.entry_enumerate_next ?_ (F.args_enumerate_next_1 _))))
    show wpAny _ _ (field (.ref e) 2 >>= _) _ _ _
    refine wpAny_bind (wpAny_field he rfl (x := .ref it) rfl ?_)
    rcases hty with z | z
    · rw [z] at hit
      refine wpAny_bind (wpAny_nextOf_ascii_end (A := X.A.in1) (I.ok.hd hc) hit hx fun h' x' he' hx' => ?_)
      obtain ⟨o, ho, hcl⟩ := hx'
      refine wpAny_bind (wpAny_isInstance (T := "StopIteration") (b := true) ⟨o, ho, hcl⟩ isSubtype_stop ?_)
      exact wpAny_pure (fin _ he')
    · rw [z] at hit
      refine wpAny_bind (wpAny_nextOf_wide_end (A := X.A.in1) (I.ok.hd hc) hit hx fun h' x' he' hx' => ?_)
      obtain ⟨o, ho, hcl⟩ := hx'
      refine wpAny_bind (wpAny_isInstance (T := "StopIteration") (b := true) ⟨o, ho, hcl⟩ isSubtype_stop ?_)
      exact wpAny_pure (fin _ he')
  self := fun A i s Q E st h => let ⟨⟨_, he⟩, _⟩ := st; wpAny_pyIter_enum he h
def iEnumA (K : PySem.W.Frag) (ta : TA) : TI := fun σ H R => ta σ H fun vs H1 => (∃ a xs, vs = [.ref a] ∧ SqL K H1 a xs ∧ R (Ite K a) H1) ∨ ∃ x, vs = [.str x] ∧ R (IteS x) H1
theorem pi_enumA {X : Cx} {e : Expr} {ta : TA} {p pos tpos : Pos} {elts : List Expr} {kk : Nat} (hg : Gl X "enumerate") (hm : X.mg "enumerate" = none) (ha : PA X [e] ta) (hs : starEach [e] X.env = [(false, eval e X.env)] := by rfl) :
    PI X (.Tuple elts kk tpos) (.Call (.Name "enumerate" p) [e] [] pos) (iEnumA X.K ta) := by
  refine ⟨fun pins s σ H R I h => ?_⟩
  refine Call_ (ld_blt I hg hm boot_enumerate (PyProof.Rows.callWith_type1 (thn (ha.run pos pins s σ H _ I h) fun us s1 ⟨vs, H1, I1, r1, q1⟩ => ?_) hs rfl))
  have fre : ∀ b, b ∈ [s1.heap.objs.size + 1, s1.heap.objs.size] → s1.heap.objs.size ≤ b := fun b hb => by
    have e' : b = s1.heap.objs.size + 1 ∨ b = s1.heap.objs.size := by simpa using hb
    rcases e' with z | z
    · rw [z]; exact Nat.le_add_right _ _
    · rw [z]; exact Nat.le_refl _
  rcases q1 with ⟨a, xs, ex, hq, q⟩ | ⟨x, ex, q⟩
  · subst ex
    cases r1 with
    | cons r rr =>
      cases rr
      cases r
      obtain ⟨its, rv, p', hz⟩ := I1.list hq
      refine call_enumerate_list p'.isList fun h' he hit hsz hk => wpAny_pyIter_enum he ?_
      have I2 : Inv X pins σ H1 { s1 with heap := h' } := I1.kept (t' := s1.toks) hk
      exact ⟨s1.heap.objs.size + 1, [s1.heap.objs.size + 1, s1.heap.objs.size], _, _, H1, rfl, I2, turn_enum a (s1.heap.objs.size + 1) s1.heap.objs.size, ⟨⟨.none, he⟩, hit, Nat.succ_ne_self _⟩, fun b hb => I1.fpOk (fre b hb) (I1.hok.fresh (fre b hb)), q⟩
  · subst ex
    cases r1 with
    | cons r rr =>
      cases rr
      obtain ⟨t, rfl⟩ := r
      refine call_enumerate_str fun h' he hit hsz hk => wpAny_pyIter_enum he ?_
      have I2 : Inv X pins σ H1 { s1 with heap := h' } := I1.kept (t' := s1.toks) hk
      have hty : strIterType x = "str_ascii_iterator" ∨ strIterType x = "str_iterator" := by
        unfold strIterType
        split
        · exact .inl rfl
        · exact .inr rfl
      exact ⟨s1.heap.objs.size + 1, [s1.heap.objs.size + 1, s1.heap.objs.size], _, _, H1, rfl, I2, turn_enumS x t (s1.heap.objs.size + 1) s1.heap.objs.size _ hty, ⟨⟨.none, he⟩, hit, Nat.succ_ne_self _⟩, fun b hb => I1.fpOk (fre b hb) (I1.hok.fresh (fre b hb)), q⟩
end
end VL

set_option Elab.async false
set_option linter.all false
set_option maxRecDepth 100000
/-! VL8: what is walked; for, while; list comprehensions. -/
namespace VL
open PySem PySem.Spec PyProof.Rows L2

/-- an iterator yields just these data, while what it leans on stands -/
def Walks (K : PySem.W.Frag) (mg : Str → Option Value) (J : It) (ds : List D) (O : Ft) (H F : Hp) : Prop :=
  ∃ G : Ft → Hp → Hp → Prop, G O H F ∧ (∀ O1 H1 F1 O2 H2 F2, G O1 H1 F1 → Evo O1 H1 F1 O2 H2 F2 → G O2 H2 F2) ∧
    (∀ i O H F, G O H F → Same F H → (∀ d, ds[i]? = some d → J.go i H ∧ ∀ x H', J.yld i H x H' → ∃ F', Grow H F H' F' ∧ rep K mg F' d x) ∧ (i = ds.length → J.stop i H))
abbrev Eit := Env → Res (List D × Env)
section
variable (X : Cx) (Γ Γ' : Gm) (W : WE)
def trI (f : Eit) : TI := fun σ H R => ∃ ρ F, Rel X.K X.mg Γ ρ σ H F ∧ (f ρ).sat
  (fun r => ∀ J H' F', Evo (Own Γ ρ σ) H F (Own Γ' r.2 σ) H' F' → Rel X.K X.mg Γ' r.2 σ H' F' → Walks X.K X.mg J r.1 (Own Γ' r.2 σ) H' F' → R J H') (exW W Γ ρ σ H F)
abbrev VI (tg iter : Expr) (f : Eit) : Prop := PI X tg iter (trI X Γ Γ' W f)
end
section
variable {K : PySem.W.Frag} {mg : Str → Option Value} {O O' : Ft} {H F H' F' : Hp} {l : List D} {p : Addr} {vs : List V}
theorem walks_list (hH : H p = some (.lst vs)) (hr : reps K mg F l vs) (hf : F p = some (.lst vs) ∨ (F p = none ∧ ¬ O.o p)) : Walks K mg (Itl K p) l O H F := by
  refine ⟨fun O H F => H p = some (.lst vs) ∧ reps K mg F l vs ∧ (F p = some (.lst vs) ∨ (F p = none ∧ ¬ O.o p)), ⟨hH, hr, hf⟩, ?_, ?_⟩
  · rintro O1 H1 F1 O2 H2 F2 ⟨g1, g2, g3⟩ e
    rcases g3 with g3 | ⟨g3, g4⟩
    · exact ⟨e.sh _ _ (e.sf _ _ g3), reps_mono e.sf g2, .inl (e.sf _ _ g3)⟩
    · obtain ⟨k1, k2⟩ := e.kp p _ g1 g3 g4
      refine ⟨k1, reps_mono e.sf g2, .inr ⟨k2, fun z => ?_⟩⟩
      rcases e.ow p z with w | w
      · exact g4 w
      · rw [g1] at w; cases w
  · rintro i O H F ⟨g1, g2, g3⟩ s
    refine ⟨fun d hd => ?_, fun e => ⟨vs, .of g1, by rw [reps_length g2, e]; exact Nat.le_refl _⟩⟩
    obtain ⟨v, h1, h2⟩ := reps_get g2 hd
    refine ⟨⟨vs, v, .of g1, h1⟩, fun x H' ⟨e, y⟩ => ?_⟩
    subst e
    have := y vs (.of g1)
    rw [h1] at this; cases this
    exact ⟨F, Grow.refl s, h2⟩
theorem walks_tup (hH : SqT K F p vs) (hr : reps K mg F l vs) (s : Same F H) : Walks K mg (Itt K p) l O H F := by
  refine ⟨fun O H F => SqT K F p vs ∧ reps K mg F l vs, ⟨hH, hr⟩, ?_, ?_⟩
  · rintro O1 H1 F1 O2 H2 F2 ⟨g1, g2⟩ e
    exact ⟨Same.sqT e.sf g1, reps_mono e.sf g2⟩
  · rintro i O H F ⟨g1, g2⟩ s
    have g1' := Same.sqT s g1
    refine ⟨fun d hd => ?_, fun e => ⟨vs, g1', by rw [reps_length g2, e]; exact Nat.le_refl _⟩⟩
    obtain ⟨v, h1, h2⟩ := reps_get g2 hd
    refine ⟨⟨vs, v, g1', h1⟩, fun x H' ⟨e, y⟩ => ?_⟩
    subst e
    have := y vs g1'
    rw [h1] at this; cases this
    exact ⟨F, Grow.refl s, h2⟩
theorem walks_str {z : List Nat} : Walks K mg (Its ⟨z.toArray⟩) (z.map fun c => D.str [c]) O H F := by
  refine ⟨fun _ _ _ => True, trivial, fun _ _ _ _ _ _ _ _ => trivial, fun i O H F _ s => ⟨fun d hd => ?_, fun e => by
    show z.toArray.size ≤ i
    rw [e, List.length_map, List.size_toArray]
    exact Nat.le_refl _⟩⟩
  rw [List.getElem?_map] at hd
  cases hc : z[i]? with
  | none => rw [hc] at hd; cases hd
  | some c =>
    rw [hc] at hd
    cases hd
    have hi : i < z.length := by
      rcases Nat.lt_or_ge i z.length with q | q
      · exact q
      · rw [List.getElem?_eq_none q] at hc; cases hc
    refine ⟨by show i < z.toArray.size; simpa using hi, fun x H' ⟨e, c', h1, h2⟩ => ?_⟩
    subst e h2
    refine ⟨F, Grow.refl s, ?_⟩
    have h1 : z.toArray[i]? = some c' := h1
    have : c' = c := by
      have h3 : z[i]? = some c' := by simpa using h1
      rw [hc] at h3; cases h3; rfl
    subst this
    simp only [rep]
theorem walks_range {lo : Int} {n : Nat} : Walks K mg (Itr lo n) ((List.range n).map fun k => D.int (lo + (k : Nat))) O H F := by
  refine ⟨fun _ _ _ => True, trivial, fun _ _ _ _ _ _ _ _ => trivial, fun i O H F _ s => ⟨fun d hd => ?_, fun e => by
    show n ≤ i
    rw [e, List.length_map, List.length_range]
    exact Nat.le_refl _⟩⟩
  rw [List.getElem?_map] at hd
  rcases Nat.lt_or_ge i n with hi | hi
  · rw [List.getElem?_range hi] at hd
    cases hd
    refine ⟨hi, fun x H' ⟨e, e2⟩ => ?_⟩
    subst e e2
    exact ⟨F, Grow.refl s, by simp only [rep]⟩
  · rw [List.getElem?_eq_none (by simpa using hi)] at hd; cases hd
theorem walks_rangeC {lo c : Int} {n : Nat} : Walks K mg (Itc lo c n) ((List.range n).map fun k => D.int (lo + (k : Nat) * c)) O H F := by
  refine ⟨fun _ _ _ => True, trivial, fun _ _ _ _ _ _ _ _ => trivial, fun i O H F _ s => ⟨fun d hd => ?_, fun e => by
    show n ≤ i
    rw [e, List.length_map, List.length_range]
    exact Nat.le_refl _⟩⟩
  rw [List.getElem?_map] at hd
  rcases Nat.lt_or_ge i n with hi | hi
  · rw [List.getElem?_range hi] at hd
    cases hd
    refine ⟨hi, fun x H' ⟨e, e2⟩ => ?_⟩
    subst e e2
    exact ⟨F, Grow.refl s, by simp only [rep]⟩
  · rw [List.getElem?_eq_none (by simpa using hi)] at hd; cases hd
def enumD : Nat → List D → List D
  | _, [] => []
  | k, d :: ds => .tup [.int (k : Nat), d] :: enumD (k + 1) ds
theorem enumD_get : ∀ (l : List D) (k i : Nat), (enumD k l)[i]? = (l[i]?).map fun d => .tup [.int ((k + i : Nat) : Int), d]
  | [], _, _ => by simp [enumD]
  | d :: l, k, 0 => by simp [enumD]
  | d :: l, k, i + 1 => by
    simp only [enumD, List.getElem?_cons_succ]
    rw [enumD_get l (k + 1) i]
    have : k + 1 + i = k + (i + 1) := by omega
    rw [this]
theorem enumD_length : ∀ (l : List D) (k : Nat), (enumD k l).length = l.length
  | [], _ => rfl
  | d :: l, k => by simp only [enumD, List.length_cons, enumD_length l]
theorem walks_enumS {z : List Nat} : Walks K mg (IteS ⟨z.toArray⟩) (enumD 0 (z.map fun c => D.str [c])) O H F := by
  refine ⟨fun _ _ _ => True, trivial, fun _ _ _ _ _ _ _ _ => trivial, fun i O H F _ s => ⟨fun d hd => ?_, fun e => by
    show z.toArray.size ≤ i
    rw [e, enumD_length, List.length_map, List.size_toArray]
    exact Nat.le_refl _⟩⟩
  rw [enumD_get, List.getElem?_map] at hd
  cases hc : z[i]? with
  | none => rw [hc] at hd; cases hd
  | some c =>
    rw [hc] at hd
    cases hd
    have hi : i < z.length := by
      rcases Nat.lt_or_ge i z.length with q | q
      · exact q
      · rw [List.getElem?_eq_none q] at hc; cases hc
    refine ⟨by show i < z.toArray.size; simpa using hi, fun x H' ⟨T, c', e1, e2, e3, e4⟩ => ?_⟩
    subst e1 e3
    have : z[i]? = some c' := by simpa using e4
    rw [hc] at this; cases this
    have r2 : reps K mg F [.int ((0 + i : Nat) : Int), .str [c]] [.int ((i : Nat) : Int), .str ⟨#[c]⟩] := reps_cons (by simp only [rep, Nat.zero_add]) (reps_one (by simp only [rep]))
    exact ⟨_, Grow.newF s e2, rep_tup_new e2 s r2⟩
theorem walks_enum (hH : H p = some (.lst vs)) (hr : reps K mg F l vs) (hf : F p = some (.lst vs) ∨ (F p = none ∧ ¬ O.o p)) : Walks K mg (Ite K p) (enumD 0 l) O H F := by
  obtain ⟨G, g0, gs, gt⟩ := walks_list (O := O) hH hr hf
  refine ⟨fun O H F => H p = some (.lst vs) ∧ reps K mg F l vs ∧ (F p = some (.lst vs) ∨ (F p = none ∧ ¬ O.o p)), ⟨hH, hr, hf⟩, ?_, ?_⟩
  · rintro O1 H1 F1 O2 H2 F2 ⟨g1, g2, g3⟩ e
    rcases g3 with g3 | ⟨g3, g4⟩
    · exact ⟨e.sh _ _ (e.sf _ _ g3), reps_mono e.sf g2, .inl (e.sf _ _ g3)⟩
    · obtain ⟨k1, k2⟩ := e.kp p _ g1 g3 g4
      refine ⟨k1, reps_mono e.sf g2, .inr ⟨k2, fun z => ?_⟩⟩
      rcases e.ow p z with w | w
      · exact g4 w
      · rw [g1] at w; cases w
  · rintro i O H F ⟨g1, g2, g3⟩ s
    refine ⟨fun d hd => ?_, fun e => ⟨vs, .of g1, by rw [reps_length g2, e, enumD_length]; exact Nat.le_refl _⟩⟩
    rw [enumD_get] at hd
    cases hc : l[i]? with
    | none => rw [hc] at hd; cases hd
    | some c =>
      rw [hc] at hd; cases hd
      obtain ⟨v, h1, h2⟩ := reps_get g2 hc
      refine ⟨⟨vs, v, .of g1, h1⟩, fun x H' ⟨T, y, e1, e2, e3, e4⟩ => ?_⟩
      subst e1 e3
      have := e4 vs (.of g1)
      rw [h1] at this; cases this
      have r2 : reps K mg F [.int ((0 + i : Nat) : Int), c] [.int ((i : Nat) : Int), v] := reps_cons (by simp only [rep, Nat.zero_add]) (reps_one h2)
      exact ⟨_, Grow.newF s e2, rep_tup_new e2 s r2⟩
end

/-- the items of a datum -/
def itD : D → Option (List D)
  | .lst l => some l
  | .tup l => some l
  | .str l => some (l.map fun c => .str [c])
  | _ => none
def eIt (f : Ev) : Eit := fun ρ => (f ρ).bind fun r => (opt (itD r.1)).bind fun l => .ok (l, r.2)
section
variable {X : Cx} {Γ Γ' Γ1 Γ2 Γ3 : Gm} {S : SC} {W : WE} {st : Stmt} {sts body rest : List Stmt} {tg iter o e a b c : Expr} {es : List Expr} {p pos pos' apos cpos tpos : Pos} {m : Md} {ev fi fe : Ev} {et : Et} {as : List Arg} {i : Nat}
theorem piImp {t t' : TI} (h : PI X tg iter t) (i : ∀ σ H R, t' σ H R → t σ H R) : PI X tg iter t' := ⟨fun pins s σ H R I q => h.run pins s σ H R I (i σ H R q)⟩
theorem pi_or {t t' : TI} (h : PI X tg iter t) (h' : PI X tg iter t') : PI X tg iter (fun σ H R => t σ H R ∨ t' σ H R) :=
  ⟨fun pins s σ H R I q => by
    rcases q with q | q
    · exact h.run pins s σ H R I q
    · exact h'.run pins s σ H R I q⟩
/-- a slot that is read only, walked -/
theorem vb_brw {i : Nat} (h : PE X e (tVar i)) (hm : Γ[i]? = some .brw) : VB X Γ Γ W e (.ex (eVar i)) :=
  peImp h fun σ H Q ⟨ρ, F, r, q⟩ => by
    obtain ⟨d, e2, q⟩ := gv_sat (Res.sat_bind.mp (Res.sat_bind.mp q))
    obtain ⟨v, h1, h2⟩ := r.slot i _ d hm e2
    exact ⟨v, h1, q v H F (Evo.refl r.sub) r h2⟩
theorem vi_any (h : VB X Γ Γ' W iter (.ex ev)) : VI X Γ Γ' W tg iter (eIt ev) :=
  piImp (pi_or (pi_list h) (pi_or (pi_tup h) (pi_str h))) fun σ H R ⟨ρ, F, r, q⟩ => by
    have q := Res.sat_bind.mp q
    -- the three kinds
    have mk : ∀ {k : V → Hp → Prop}, (∀ v H' F' d ρ', ev ρ = .ok (d, ρ') → Evo (Own Γ ρ σ) H F (Own Γ' ρ' σ) H' F' → Rel X.K X.mg Γ' ρ' σ H' F' → RdN X.K X.mg (Own Γ' ρ' σ) H' F' v d → k v H') → (∀ x, ev ρ = .exn x → exW W Γ ρ σ H F x) → (ev ρ ≠ .bad) → trB X Γ Γ' W (.ex ev) σ H k := fun {k} hk hx hb =>
      ⟨ρ, F, r, Res.sat_bind.mpr (by
        cases he : ev ρ with
        | bad => exact absurd he hb
        | exn x => exact hx x he
        | ok z => exact fun v H' F' e1 r1 b1 => hk v H' F' z.1 z.2 he e1 r1 b1)⟩
    cases he : ev ρ with
    | bad => rw [he] at q; exact q.elim
    | exn x =>
      rw [he] at q
      exact .inl (mk (k := _) (fun v H' F' d ρ' h => by rw [he] at h; cases h) (fun y h => by rw [he] at h; cases h; exact q) (by rw [he]; intro h; cases h))
    | ok z =>
      rw [he] at q
      obtain ⟨ds, hds, q⟩ := opt_sat (Res.sat_bind.mp q)
      have nx : ∀ x, ev ρ = .exn x → exW W Γ ρ σ H F x := fun x h => by rw [he] at h; cases h
      have nb : ev ρ ≠ .bad := by rw [he]; intro h; cases h
      obtain ⟨d, ρ'⟩ := z
      cases d <;> first | (cases hds; done) | skip
      · cases hds
        refine .inr (.inr (mk (fun v H' F' d ρ' h e1 r1 b1 => ?_) nx nb))
        rw [he] at h; cases h
        have b1 := (RdN.rdd b1).str
        subst b1
        exact ⟨_, rfl, q _ H' F' e1 r1 walks_str⟩
      · cases hds
        refine .inr (.inl (mk (fun v H' F' d ρ' h e1 r1 b1 => ?_) nx nb))
        rw [he] at h; cases h
        obtain ⟨p, vs, rfl, h1, h2⟩ := (RdN.rdd b1).tup
        exact ⟨p, rfl, ⟨vs, Same.sqT r1.sub h1⟩, q _ H' F' e1 r1 (walks_tup h1 h2 r1.sub)⟩
      · cases hds
        refine .inl (mk (fun v H' F' d ρ' h e1 r1 b1 => ?_) nx nb)
        rw [he] at h; cases h
        unfold RdN at b1
        rw [if_pos (show cellD (.lst _) = true from rfl)] at b1
        obtain ⟨p, ob, rfl, h1, ⟨vs, rfl, h2⟩, h3⟩ := b1
        exact ⟨p, rfl, ⟨vs, .of h1⟩, q _ H' F' e1 r1 (walks_list h1 h2 h3)⟩
/-- range(..) -/
def rB (j : Int) : Bool := Nat.ble j.natAbs 4611686018427387903
theorem rB_iff {j : Int} : rB j = true ↔ j < 4611686018427387904 ∧ -4611686018427387904 < j := by
  unfold rB
  constructor
  · intro h; have := Nat.le_of_ble_eq_true h; omega
  · intro h; exact Nat.ble_eq_true_of_le (by omega)
def rngOf : List D → Option (List D)
  | [.int j] => if rB j = true then some ((List.range j.toNat).map fun k => D.int (0 + (k : Nat))) else none
  | [.int i, .int j] => if (rB j && rB i) = true then some ((List.range (j - i).toNat).map fun k => D.int (i + (k : Nat))) else none
  | [.int i, .int j, .int c] => if (decide (c = -1) && (rB j && rB i)) = true then some ((List.range (i - j).toNat).map fun k => D.int (i + (k : Nat) * -1)) else none
  | _ => none
def eRng (as : List Arg) : Eit := fun ρ => (Arg.runs as ρ).bind fun p => (Arg.fins as p.1 p.2).bind fun ds => (opt (rngOf ds)).bind fun l => .ok (l, p.2)
theorem rng_tr {σ : St} {H : Hp} {R : It → Hp → Prop} (h : trI X Γ Γ' W (eRng as) σ H R) : trA X Γ Γ' W as σ H fun vs H1 => ∃ ds l, Rdds X.K X.mg H1 H1 vs ds ∧ rngOf ds = some l ∧ ∀ J, (∀ O F, Walks X.K X.mg J l O H1 F) → R J H1 := by
  obtain ⟨ρ, F, rl, q⟩ := h
  refine ⟨ρ, F, rl, Res.sat_imp (Res.sat_bind.mp q) (fun z _ q vs H1 F1 e1 r1 b1 => ?_) fun _ h => h⟩
  obtain ⟨ds, hds, q⟩ := fins_sat q
  obtain ⟨l, hd, q⟩ := opt_sat (Res.sat_bind.mp q)
  have rd := (b1.fin r1 hds).rdds r1.sub
  refine ⟨ds, l, ?_, hd, fun J w => q J H1 F1 e1 r1 (w _ _)⟩
  have up : ∀ {v : V} {i : Int}, Rdd X.K X.mg H1 F1 v (.int i) → Rdd X.K X.mg H1 H1 v (.int i) := fun {v i} h => by
    rw [h.int]; exact rep.rdd (Same.refl _) (by simp only [rep])
  unfold rngOf at hd
  split at hd
  · obtain ⟨v, w, e1, h1, e2⟩ := rd; exact ⟨v, w, e1, up h1, e2⟩
  · obtain ⟨v, w, e1, h1, v2, w2, e2, h2, e3⟩ := rd; exact ⟨v, w, e1, up h1, v2, w2, e2, up h2, e3⟩
  · obtain ⟨v, w, e1, h1, v2, w2, e2, h2, v3, w3, e3, h3, e4⟩ := rd; exact ⟨v, w, e1, up h1, v2, w2, e2, up h2, v3, w3, e3, up h3, e4⟩
  · cases hd
theorem trA_mono {σ : St} {H : Hp} {Q Q' : List V → Hp → Prop} (h : trA X Γ Γ' W as σ H Q) (i : ∀ vs H1, Q vs H1 → Q' vs H1) : trA X Γ Γ' W as σ H Q' := by
  obtain ⟨ρ, F, r, q⟩ := h
  exact ⟨ρ, F, r, Res.sat_imp q (fun z _ q vs H' F' e1 r1 b1 => i _ _ (q vs H' F' e1 r1 b1)) fun _ h => h⟩
theorem vi_rng1 {ar : Arg} (hg : Gl X "range") (hm : X.mg "range" = none) (ha : VA X Γ Γ' W [a] [ar]) (hs : starEach [a] X.env = [(false, eval a X.env)] := by rfl) : VI X Γ Γ' W tg (.Call (.Name "range" p) [a] [] pos) (eRng [ar]) :=
  piImp (pi_range1 hg hm ha hs) fun σ H R h => by
    obtain ⟨ρ, F, rl, q⟩ := h
    refine ⟨ρ, F, rl, Res.sat_imp (Res.sat_bind.mp q) (fun z _ q vs H1 F1 e1 r1 b1 => ?_) fun _ h => h⟩
    obtain ⟨ds, hds, q⟩ := fins_sat q
    obtain ⟨l, hd, q⟩ := opt_sat (Res.sat_bind.mp q)
    obtain ⟨v, w, d, e, rfl, rfl, h3, rfl, rfl⟩ := b1.fin r1 hds
    have h3 := h3.rdd r1.sub
    unfold rngOf at hd
    cases d <;> first | (cases hd; done) | skip
    dsimp only at hd
    split at hd <;> cases hd
    rename_i hb
    have hb := rB_iff.mp hb
    rw [h3.int]
    exact ⟨_, rfl, by omega, by omega, q _ H1 F1 e1 r1 walks_range⟩
theorem vi_rng2 {ar br : Arg} (hg : Gl X "range") (hm : X.mg "range" = none) (ha : VA X Γ Γ' W [a, b] [ar, br]) (hs : starEach [a, b] X.env = [(false, eval a X.env), (false, eval b X.env)] := by rfl) (hs2 : starEach [b] X.env = [(false, eval b X.env)] := by rfl) : VI X Γ Γ' W tg (.Call (.Name "range" p) [a, b] [] pos) (eRng [ar, br]) :=
  piImp (pi_range2 hg hm ha hs hs2) fun σ H R h => by
    obtain ⟨ρ, F, rl, q⟩ := h
    refine ⟨ρ, F, rl, Res.sat_imp (Res.sat_bind.mp q) (fun z _ q vs H1 F1 e1 r1 b1 => ?_) fun _ h => h⟩
    obtain ⟨ds, hds, q⟩ := fins_sat q
    obtain ⟨l, hd, q⟩ := opt_sat (Res.sat_bind.mp q)
    obtain ⟨v, w, d, e, rfl, rfl, h3, v2, w2, d2, e2, rfl, rfl, h4, rfl, rfl⟩ := b1.fin r1 hds
    have h3 := h3.rdd r1.sub
    have h4 := h4.rdd r1.sub
    unfold rngOf at hd
    cases d <;> first | (cases hd; done) | skip
    cases d2 <;> first | (cases hd; done) | skip
    dsimp only at hd
    split at hd <;> cases hd
    rename_i hb
    rw [Bool.and_eq_true] at hb
    have hb1 := rB_iff.mp hb.1
    have hb2 := rB_iff.mp hb.2
    rw [h3.int, h4.int]
    exact ⟨_, _, rfl, ⟨by omega, by omega, by omega, by omega⟩, q _ H1 F1 e1 r1 walks_range⟩
theorem vi_rng3 {ar br cr : Arg} (hp : PI X tg iter (iRng3 (trA X Γ Γ' W [ar, br, cr]))) : VI X Γ Γ' W tg iter (eRng [ar, br, cr]) :=
  piImp hp fun σ H R h => by
    obtain ⟨ρ, F, rl, q⟩ := h
    refine ⟨ρ, F, rl, Res.sat_imp (Res.sat_bind.mp q) (fun z _ q vs H1 F1 e1 r1 b1 => ?_) fun _ h => h⟩
    obtain ⟨ds, hds, q⟩ := fins_sat q
    obtain ⟨l, hd, q⟩ := opt_sat (Res.sat_bind.mp q)
    obtain ⟨v, w, d, e, rfl, rfl, h3, v2, w2, d2, e2, rfl, rfl, h4, v3, w3, d3, e3, rfl, rfl, h5, rfl, rfl⟩ := b1.fin r1 hds
    have h3 := h3.rdd r1.sub
    have h4 := h4.rdd r1.sub
    have h5 := h5.rdd r1.sub
    unfold rngOf at hd
    cases d <;> first | (cases hd; done) | skip
    cases d2 <;> first | (cases hd; done) | skip
    cases d3 <;> first | (cases hd; done) | skip
    dsimp only at hd
    split at hd <;> cases hd
    rename_i hb
    rw [Bool.and_eq_true, Bool.and_eq_true, decide_eq_true_eq] at hb
    have hb1 := rB_iff.mp hb.2.1
    have hb2 := rB_iff.mp hb.2.2
    rw [h3.int, h4.int, h5.int, hb.1]
    exact ⟨_, _, _, _, rfl, RgC.neg (by omega) (by omega) (by omega) (by omega), q _ H1 F1 e1 r1 walks_rangeC⟩
/-- enumerate(list) -/
def eEnum (f : Ev) : Eit := fun ρ => (f ρ).bind fun r => match r.1 with
  | .lst l => .ok (enumD 0 l, r.2)
  | .str l => .ok (enumD 0 (l.map fun c => .str [c]), r.2)
  | _ => .bad
def trX (X : Cx) (Γ Γ' : Gm) (W : WE) (f : Ev) : TA := fun σ H Q => trB X Γ Γ' W (.ex f) σ H fun v H1 => Q [v] H1
theorem pa_one (h : VB X Γ Γ' W a (.ex ev)) (hs : starEach [a] X.env = (false, eval a X.env) :: starEach [] X.env := by rfl) : PA X [a] (trX X Γ Γ' W ev) :=
  paImp (pa_cons h pa_nil hs) fun σ H Q h => h
theorem vi_enum {elts : List Expr} {kk : Nat} (hp : PI X tg iter (iEnumA X.K (trX X Γ Γ' W ev))) : VI X Γ Γ' W tg iter (eEnum ev) :=
  piImp hp fun σ H R ⟨ρ, F, r, q⟩ => ⟨ρ, F, r, Res.sat_bind.mpr (Res.sat_imp (Res.sat_bind.mp q) (fun z _ q v H1 F1 e1 r1 b1 => by
    cases hz : z.1 <;> rw [hz] at q <;> first | exact q.elim | skip
    · have b1 : RdN X.K X.mg (Own Γ' z.2 σ) H1 F1 v z.1 := b1
      rw [hz] at b1
      unfold RdN at b1
      rw [if_neg (show ¬ cellD (.str _) = true from fun h => nomatch h)] at b1
      simp only [rep] at b1
      subst b1
      exact .inr ⟨_, rfl, q _ H1 F1 e1 r1 walks_enumS⟩
    · have b1 : RdN X.K X.mg (Own Γ' z.2 σ) H1 F1 v z.1 := b1
      rw [hz] at b1
      unfold RdN at b1
      rw [if_pos (show cellD (.lst _) = true from rfl)] at b1
      obtain ⟨p, ob, rfl, h1, ⟨vs, rfl, h2⟩, h3⟩ := b1
      exact .inl ⟨p, vs, rfl, .of h1, q _ H1 F1 e1 r1 (walks_enum h1 h2 h3)⟩) fun _ h => h)⟩

/-! ### for -/
def forL (tg : Tg) (body : Es) : List D → Env → Res Fl
  | [], ρ => .ok (.next ρ)
  | d :: ds, ρ => (opt (bindT tg d ρ)).bind fun ρ1 => (body ρ1).bind fun fl => match fl with
    | .next ρ2 => forL tg body ds ρ2
    | .cont ρ2 => forL tg body ds ρ2
    | .brk ρ2 => .ok (.next ρ2)
    | .ret d ρ2 => .ok (.ret d ρ2)
def sFor (it : Eit) (tg : Tg) (body : Es) : Es := fun ρ => (it ρ).bind fun p => forL tg body p.1 p.2
def SC.loop (S : SC) (Γ : Gm) : SC := { S with ΓL := Γ }
theorem vs_for {t : Tg} {f : Eit} {eb : Es} (hp : PassesOwn (model X.prog X.w) X.A X.env X.xe) (hc : X.calm = true) (hi : VI X Γ Γ1 W tg iter f) (hg : VG X Γ1 S.As tg t) (hb : VSs X Γ1 Γ1 (S.loop Γ1) W body eb) (hs : ∀ x, foldedSetIterable iter X.env x = pure x := by intro _; rfl) :
    VS X Γ Γ1 S W (.For tg iter body [] pos) (sFor f t eb) :=
  psImp (ps_for hp hc hi hg hb hs) fun D σ H ⟨ρ, F, r, q⟩ => ⟨ρ, F, r, Res.sat_imp (Res.sat_bind.mp q) (fun z _ q J H1 F1 e1 r1 wk => by
    obtain ⟨G, g0, gs, gt⟩ := wk
    refine ⟨fun i m σ' H' => m = z.1.length - i ∧ i ≤ z.1.length ∧ ∃ ρ' F', Rel X.K X.mg Γ1 ρ' σ' H' F' ∧ G (Own Γ1 ρ' σ') H' F' ∧ Evo (Own Γ ρ σ) H F (Own Γ1 ρ' σ') H' F' ∧ Keep S.As σ σ' ∧ (forL t eb (z.1.drop i) ρ').sat (okS X Γ Γ1 S D ρ σ H F) (exWS W Γ S.As ρ σ H F),
      ⟨_, rfl, Nat.zero_le _, z.2, F1, r1, g0, e1, Keep.refl, by simpa using q⟩, ?_⟩
    rintro i m σ' H' ⟨rfl, hi, ρ', F', r2, g2, e2, k2, q2⟩
    obtain ⟨t1, t2⟩ := gt i _ H' F' g2 r2.sub
    rcases Nat.lt_or_ge i z.1.length with hl | hl
    · obtain ⟨d, hd⟩ : ∃ d, z.1[i]? = some d := ⟨_, List.getElem?_eq_getElem hl⟩
      obtain ⟨go, yl⟩ := t1 d hd
      have dr : z.1.drop i = d :: z.1.drop (i + 1) := by
        rw [List.drop_eq_getElem_cons hl]
        rw [List.getElem?_eq_getElem hl] at hd
        cases hd; rfl
      rw [dr] at q2
      obtain ⟨ρ3, hb3, q3⟩ := opt_sat (Res.sat_bind.mp q2)
      refine .inr ⟨go, fun σ3 H3 => ∃ ρ4 F4, Rel X.K X.mg Γ1 ρ4 σ3 H3 F4 ∧ G (Own Γ1 ρ4 σ3) H3 F4 ∧ Evo (Own Γ ρ σ) H F (Own Γ1 ρ4 σ3) H3 F4 ∧ Keep S.As σ σ3 ∧ (forL t eb (z.1.drop (i + 1)) ρ4).sat (okS X Γ Γ1 S D ρ σ H F) (exWS W Γ S.As ρ σ H F), fun σ3 H3 ⟨ρ4, F4, a1, a2, a3, a4, a5⟩ => ⟨z.1.length - (i + 1), by omega, rfl, hl, ρ4, F4, a1, a2, a3, a4, a5⟩, fun x H3 y => ?_⟩
      obtain ⟨F3, gr, rx⟩ := yl x H3 y
      refine ⟨ρ', F3, d, ρ3, r2.grow gr, rx, hb3, fun σ4 ⟨m1, m2, m3⟩ => ⟨ρ3, F3, m1, Res.sat_imp (Res.sat_bind.mp q3) (fun fl _ q4 => ?_) fun _ h => h.evo (e2.trans (gr.evo.trans m2)) (k2.trans m3)⟩⟩
      have ee := e2.trans (gr.evo.trans m2)
      have kk := k2.trans m3
      have g3 := gs _ _ _ _ _ _ g2 (gr.evo.trans m2)
      cases fl with
      | next ρ5 => exact fun σ5 H5 F5 e5 k5 r5 => ⟨ρ5, F5, r5, gs _ _ _ _ _ _ g3 e5, ee.trans e5, kk.trans k5, q4⟩
      | cont ρ5 => exact fun σ5 H5 F5 e5 k5 r5 => ⟨ρ5, F5, r5, gs _ _ _ _ _ _ g3 e5, ee.trans e5, kk.trans k5, q4⟩
      | brk ρ5 => exact fun σ5 H5 F5 e5 k5 r5 => q4 σ5 H5 F5 (ee.trans e5) (kk.trans k5) r5
      | ret d5 ρ5 => exact fun v σ5 H5 F5 Γr e5 r5 hi5 rv => q4 v σ5 H5 F5 Γr (ee.trans e5) r5 hi5 (rv.evo ee)
    · have e : i = z.1.length := by omega
      refine .inl ⟨t2 e, ?_⟩
      rw [e, List.drop_length] at q2
      exact q2 σ' H' F' e2 k2 r2) fun _ h => h.ex⟩

/-! ### while -/
def whileL (t : Et) (body : Es) : Nat → Env → Res Fl
  | 0, _ => .bad
  | n + 1, ρ => (t ρ).bind fun r => if r.1 = true then (body r.2).bind fun fl => match fl with
    | .next ρ2 => whileL t body n ρ2
    | .cont ρ2 => whileL t body n ρ2
    | .brk ρ2 => .ok (.next ρ2)
    | .ret d ρ2 => .ok (.ret d ρ2)
  else .ok (.next r.2)
def sWhile (n : Nat) (t : Et) (body : Es) : Es := whileL t body n
theorem vs_while {eb : Es} {n : Nat} (hp : PassesOwn (model X.prog X.w) X.A X.env X.xe) (hc : VT X Γ Γ W c et) (hb : VSs X Γ Γ (S.loop Γ) W body eb) : VS X Γ Γ S W (.While c body [] pos) (sWhile n et eb) :=
  psImp (ps_while hp hc hb) fun D σ H ⟨ρ, F, r, q⟩ => by
    refine ⟨fun m σ' H' => ∃ ρ' F', Rel X.K X.mg Γ ρ' σ' H' F' ∧ Evo (Own Γ ρ σ) H F (Own Γ ρ' σ') H' F' ∧ Keep S.As σ σ' ∧ (whileL et eb m ρ').sat (okS X Γ Γ S D ρ σ H F) (exWS W Γ S.As ρ σ H F), ⟨n, ρ, F, r, Evo.refl r.sub, Keep.refl, q⟩, ?_⟩
    rintro m σ' H' ⟨ρ', F', r2, e2, k2, q2⟩
    cases m with
    | zero => exact q2.elim
    | succ m =>
      refine ⟨ρ', F', r2, Res.sat_imp (Res.sat_bind.mp q2) (fun z _ q3 H3 F3 e3 r3 => ?_) fun _ h => (h.evo e2 k2).ex⟩
      dsimp only
      split
      · rename_i hz
        rw [if_pos hz] at q3
        refine ⟨fun σ4 H4 => ∃ ρ4 F4, Rel X.K X.mg Γ ρ4 σ4 H4 F4 ∧ Evo (Own Γ ρ σ) H F (Own Γ ρ4 σ4) H4 F4 ∧ Keep S.As σ σ4 ∧ (whileL et eb m ρ4).sat (okS X Γ Γ S D ρ σ H F) (exWS W Γ S.As ρ σ H F), fun σ4 H4 h => ⟨m, Nat.lt_succ_self _, h⟩, ?_⟩
        have ee := e2.trans e3
        refine ⟨z.2, F3, r3, Res.sat_imp (Res.sat_bind.mp q3) (fun fl _ q4 => ?_) fun _ h => h.evo ee k2⟩
        cases fl with
        | next ρ5 => exact fun σ5 H5 F5 e5 k5 r5 => ⟨ρ5, F5, r5, ee.trans e5, k2.trans k5, q4⟩
        | cont ρ5 => exact fun σ5 H5 F5 e5 k5 r5 => ⟨ρ5, F5, r5, ee.trans e5, k2.trans k5, q4⟩
        | brk ρ5 => exact fun σ5 H5 F5 e5 k5 r5 => q4 σ5 H5 F5 (ee.trans e5) (k2.trans k5) r5
        | ret d5 ρ5 => exact fun v σ5 H5 F5 Γr e5 r5 hi5 rv => q4 v σ5 H5 F5 Γr (ee.trans e5) r5 hi5 (rv.evo ee)
      · rename_i hz
        rw [if_neg hz] at q3
        exact q3 σ' H3 F3 (e2.trans e3) k2 r3
end
end VL

set_option Elab.async false
set_option linter.all false
set_option maxRecDepth 100000
/-! VL9: list comprehensions. -/
namespace VL
open PySem PySem.Spec PyProof.Rows L2

def noexn {α : Type} : Res α → Res α
  | .ok a => .ok a
  | _ => .bad
@[simp] theorem noexn_ok {α : Type} (a : α) : noexn (.ok a) = .ok a := rfl
theorem noexn_sat {α : Type} {r : Res α} {P : α → Prop} {E E' : Exn → Prop} (h : (noexn r).sat P E) : r.sat P E' := by
  cases r with
  | ok a => exact h
  | exn x => exact h.elim
  | bad => exact h
def WF : WE := fun _ _ _ _ => False
def wipeE (ρ : Env) : List Nat → Env
  | [] => ρ
  | v :: vs => (wipeE ρ vs).set v none
def backE (ρ1 ρ2 : Env) : List Nat → Env
  | [] => ρ2
  | v :: vs => (backE ρ1 ρ2 vs).set v ((ρ1[v]?).getD none)
def lcGo (vs : List Nat) (tg : Tg) (cond : Et) (elt : Ev) : List D → List D → Env → Res (List D × Env)
  | [], acc, ρ => .ok (acc, ρ)
  | d :: ds, acc, ρ => (opt (bindT tg d ρ)).bind fun ρ1 => (noexn (cond ρ1)).bind fun c => if c.1 = true then (noexn (elt c.2)).bind fun r => lcGo vs tg cond elt ds (acc ++ [r.1]) (wipeE r.2 vs) else lcGo vs tg cond elt ds acc (wipeE c.2 vs)
def eLC (it : Eit) (vs : List Nat) (tg : Tg) (cond : Et) (elt : Ev) : Ev := fun ρ => (it ρ).bind fun p => if p.1.length ≤ 16777216 then (lcGo vs tg cond elt p.1 [] (wipeE p.2 vs)).bind fun r => .ok (.lst r.1, backE p.2 r.2 vs) else .bad
def tYesE : Et := fun ρ => .ok (true, ρ)

section
variable {K : PySem.W.Frag} {mg : Str → Option Value} {Γ : Gm} {ρ ρ1 ρ2 : Env} {σ σ' : St} {H F H1 F1 : Hp} {i : Nat} {vs : List Nat}
theorem OwnAt.unset (hm : Γ[i]? = some .fz) {j : Nat} {p : Addr} : OwnAt Γ (ρ.set i none) (σ.set i none) j p ↔ OwnAt Γ ρ σ j p := by
  constructor
  · rintro ⟨m, d, g1, g2, g3, g4, g5⟩
    by_cases e : i = j
    · subst e; rw [hm] at g1; cases g1; cases g2
    · rw [List.getElem?_set_ne e] at g3 g5; exact ⟨m, d, g1, g2, g3, g4, g5⟩
  · rintro ⟨m, d, g1, g2, g3, g4, g5⟩
    by_cases e : i = j
    · subst e; rw [hm] at g1; cases g1; cases g2
    · exact ⟨m, d, g1, g2, by rw [List.getElem?_set_ne e]; exact g3, g4, by rw [List.getElem?_set_ne e]; exact g5⟩
theorem BrwAt.unset (hm : Γ[i]? = some .fz) {j : Nat} {p : Addr} : BrwAt Γ (ρ.set i none) (σ.set i none) j p ↔ BrwAt Γ ρ σ j p := by
  constructor
  · rintro ⟨d, g1, g3, g4, g5⟩
    by_cases e : i = j
    · subst e; rw [hm] at g1; cases g1
    · rw [List.getElem?_set_ne e] at g3 g5; exact ⟨d, g1, g3, g4, g5⟩
  · rintro ⟨d, g1, g3, g4, g5⟩
    by_cases e : i = j
    · subst e; rw [hm] at g1; cases g1
    · exact ⟨d, g1, by rw [List.getElem?_set_ne e]; exact g3, g4, by rw [List.getElem?_set_ne e]; exact g5⟩
theorem Own.unset (hm : Γ[i]? = some .fz) : Own Γ (ρ.set i none) (σ.set i none) = Own Γ ρ σ := by
  unfold Own
  congr 1
  · funext p
    exact propext ⟨fun ⟨j, h⟩ => ⟨j, (OwnAt.unset hm).mp h⟩, fun ⟨j, h⟩ => ⟨j, (OwnAt.unset hm).mpr h⟩⟩
  · funext j p
    exact propext (BrwAt.unset hm)
theorem Rel.unset (r : Rel K mg Γ ρ σ H F) (hm : Γ[i]? = some .fz) : Rel K mg Γ (ρ.set i none) (σ.set i none) H F :=
  ⟨by simp only [List.length_set]; exact r.lr, by simp only [List.length_set]; exact r.lg, fun j m d g1 g2 => by
    by_cases e : i = j
    · subst e
      by_cases hl : i < ρ.length
      · rw [getset hl] at g2; cases g2
      · rw [List.getElem?_eq_none (by simpa using hl)] at g2; cases g2
    · rw [List.getElem?_set_ne e] at g2
      obtain ⟨v, h1, h2⟩ := r.slot j m d g1 g2
      exact ⟨v, by rw [List.getElem?_set_ne e]; exact h1, by rw [Own.unset hm]; exact h2⟩,
    fun a b p ga gb => r.inj a b p ((OwnAt.unset hm).mp ga) ((OwnAt.unset hm).mp gb), r.sub⟩
theorem Rel.wipe (r : Rel K mg Γ ρ σ H F) : ∀ {vs : List Nat}, (∀ v ∈ vs, Γ[v]? = some .fz) → Rel K mg Γ (wipeE ρ vs) (L2.wipe σ vs) H F ∧ Own Γ (wipeE ρ vs) (L2.wipe σ vs) = Own Γ ρ σ
  | [], _ => ⟨r, rfl⟩
  | v :: vs, h => by
    obtain ⟨r1, e1⟩ := r.wipe (vs := vs) fun w hw => h w (List.mem_cons_of_mem _ hw)
    have hv := h v List.mem_cons_self
    exact ⟨r1.unset hv, (Own.unset hv).trans e1⟩
theorem backE_in : ∀ {vs : List Nat} {j : Nat}, j ∈ vs → j < ρ2.length → (backE ρ1 ρ2 vs)[j]? = some ((ρ1[j]?).getD none)
  | [], _, h, _ => by cases h
  | v :: vs, j, h, hl => by
    have len : ∀ vs : List Nat, (backE ρ1 ρ2 vs).length = ρ2.length := fun vs => by
      induction vs with
      | nil => rfl
      | cons w ws ih => simp only [backE, List.length_set, ih]
    simp only [backE]
    by_cases e : v = j
    · subst e; rw [getset (by rw [len]; exact hl)]
    · rw [List.getElem?_set_ne e]
      rcases List.mem_cons.mp h with z | z
      · exact absurd z.symm e
      · exact backE_in z hl
theorem backE_out : ∀ {vs : List Nat} {j : Nat}, j ∉ vs → (backE ρ1 ρ2 vs)[j]? = ρ2[j]?
  | [], _, _ => rfl
  | v :: vs, j, h => by
    simp only [backE]
    simp only [List.mem_cons, not_or] at h
    rw [List.getElem?_set_ne (fun e => h.1 e.symm)]
    exact backE_out h.2
theorem backE_length : ∀ vs : List Nat, (backE ρ1 ρ2 vs).length = ρ2.length := fun vs => by
  induction vs with
  | nil => rfl
  | cons w ws ih => simp only [backE, List.length_set, ih]
theorem back_own (hv : ∀ v ∈ vs, Γ[v]? = some .fz) : Own Γ (backE ρ1 ρ2 vs) σ = Own Γ ρ2 (L2.wipe σ vs) := by
  have key : ∀ {j : Nat} {m : Md}, Γ[j]? = some m → m ≠ .fz → j ∉ vs := fun {j m} h hm hj => by
    rw [hv j hj] at h; cases h; exact hm rfl
  unfold Own
  congr 1
  · funext p
    refine propext ⟨fun ⟨j, m, d, g1, g2, g3, g4, g5⟩ => ?_, fun ⟨j, m, d, g1, g2, g3, g4, g5⟩ => ?_⟩
    · have n := key g1 (by intro e; rw [e] at g2; cases g2)
      rw [backE_out n] at g3
      exact ⟨j, m, d, g1, g2, g3, g4, by rw [wipe_out n]; exact g5⟩
    · have n := key g1 (by intro e; rw [e] at g2; cases g2)
      rw [wipe_out n] at g5
      exact ⟨j, m, d, g1, g2, by rw [backE_out n]; exact g3, g4, g5⟩
  · funext j p
    refine propext ⟨fun ⟨d, g1, g3, g4, g5⟩ => ?_, fun ⟨d, g1, g3, g4, g5⟩ => ?_⟩
    · have n := key g1 (by intro e; cases e)
      rw [backE_out n] at g3
      exact ⟨d, g1, g3, g4, by rw [wipe_out n]; exact g5⟩
    · have n := key g1 (by intro e; cases e)
      rw [wipe_out n] at g5
      exact ⟨d, g1, by rw [backE_out n]; exact g3, g4, g5⟩
theorem Rel.back (r1 : Rel K mg Γ ρ1 σ H1 F1) (r2 : Rel K mg Γ ρ2 (L2.wipe σ vs) H F) (s : Same F1 F) (hv : ∀ v ∈ vs, Γ[v]? = some .fz) : Rel K mg Γ (backE ρ1 ρ2 vs) σ H F := by
  have wl : (L2.wipe σ vs).length = σ.length := L2.wipe_length σ vs
  have key : ∀ {j : Nat} {m : Md}, Γ[j]? = some m → m ≠ .fz → j ∉ vs := fun {j m} h hm hj => by
    rw [hv j hj] at h; cases h; exact hm rfl
  refine ⟨by rw [backE_length, r2.lr, wl], by rw [r2.lg, wl], fun j m d g1 g2 => ?_, fun a b p ga gb => ?_, r2.sub⟩
  · by_cases hj : j ∈ vs
    · have hl : j < ρ2.length := by
        rcases Nat.lt_or_ge j ρ2.length with q | q
        · exact q
        · rw [List.getElem?_eq_none (by rw [backE_length]; exact q)] at g2; cases g2
      rw [backE_in hj hl] at g2
      have hm := hv j hj
      rw [g1] at hm; cases hm
      cases h : ρ1[j]? with
      | none => rw [h] at g2; cases g2
      | some o =>
        rw [h] at g2
        have g2 : some o = some (some d) := g2
        cases g2
        obtain ⟨v, k1, k2⟩ := r1.slot j _ d g1 h
        exact ⟨v, k1, rep_mono s k2⟩
    · rw [backE_out hj] at g2
      obtain ⟨v, k1, k2⟩ := r2.slot j m d g1 g2
      rw [wipe_out hj] at k1
      exact ⟨v, k1, by rw [back_own hv]; exact k2⟩
  · have tr : ∀ {j : Nat}, OwnAt Γ (backE ρ1 ρ2 vs) σ j p → OwnAt Γ ρ2 (L2.wipe σ vs) j p := fun {j} ⟨m, d, g1, g2, g3, g4, g5⟩ => by
      have n := key g1 (by intro e; rw [e] at g2; cases g2)
      rw [backE_out n] at g3
      exact ⟨m, d, g1, g2, g3, g4, by rw [wipe_out n]; exact g5⟩
    exact r2.inj a b p (tr ga) (tr gb)
theorem wipe_keep (hl : σ.length = σ'.length) (k : Keep vs σ σ') : L2.wipe σ' vs = L2.wipe σ vs := by
  apply List.ext_getElem?
  intro j
  by_cases hj : j ∈ vs
  · have aux : ∀ (τ : St) (ws : List Nat), j ∈ ws → j < τ.length → (L2.wipe τ ws)[j]? = some none := by
      intro τ ws
      induction ws with
      | nil => intro h; cases h
      | cons w ws ih =>
        intro h hl
        unfold L2.wipe
        by_cases e : w = j
        · subst e; rw [getset (by rw [L2.wipe_length]; exact hl)]
        · rw [List.getElem?_set_ne e]
          rcases List.mem_cons.mp h with z | z
          · exact absurd z.symm e
          · exact ih z hl
    by_cases h : j < σ.length
    · rw [aux σ vs hj h, aux σ' vs hj (by omega)]
    · rw [List.getElem?_eq_none (by rw [L2.wipe_length]; omega), List.getElem?_eq_none (by rw [L2.wipe_length]; omega)]
  · rw [wipe_out hj, wipe_out hj]; exact k.2 j hj
end
/-- one address more -/
def Ft.add (O : Ft) (p : Addr) : Ft := ⟨fun q => O.o q ∨ q = p, O.b⟩
section
variable {K : PySem.W.Frag} {mg : Str → Option Value} {Γ : Gm} {ρ : Env} {σ : St} {O O' O2 : Ft} {H F H' F' H2 F2 : Hp} {p : Addr} {o u : HO}
theorem Evo.add (e : Evo O H F O' H' F') : Evo (O.add p) H F (O'.add p) H' F' :=
  ⟨e.sf, e.sh, fun q x h f n => e.kp q x h f fun z => n (.inl z), e.dom, fun q h => by
    rcases h with h | h
    · rcases e.ow q h with z | z
      · exact .inl (.inl z)
      · exact .inr z
    · exact .inl (.inr h), e.ob⟩
theorem Evo.start (s : Same F H) (hp : H p = none) : Evo O H F (O.add p) (L2.upd H p o) F :=
  ⟨Same.refl _, s.trans (Same.updN hp), fun q x h f _ => ⟨Same.updN hp _ _ h, f⟩, fun q h => by
    by_cases e : q = p
    · subst e; exact hp
    · rw [upd_ne e] at h; exact h, fun q h => by
    rcases h with h | h
    · exact .inl h
    · subst h; exact .inr hp, fun _ _ h => h⟩
theorem Evo.write (s : Same F H) (f : F p = none) (h : H p = some u) : Evo (O.add p) H F (O.add p) (L2.upd H p o) F :=
  ⟨Same.refl _, fun b x e => by rw [upd_ne (ne_of_none e f)]; exact s _ _ e, fun q x k1 k2 n => by
    have : q ≠ p := fun e => n (.inr e)
    rw [upd_ne this]; exact ⟨k1, k2⟩, fun q k => by
    by_cases e : q = p
    · subst e; rw [upd_same] at k; cases k
    · rw [upd_ne e] at k; exact k, fun q k => .inl k, fun _ _ k => k⟩
/-- the list that is being made is no slot's -/
theorem Rel.side (r : Rel K mg Γ ρ σ H F) (f : F p = none) (n : ¬ (Own Γ ρ σ).o p) (nb : ∀ j, ¬ (Own Γ ρ σ).b j p) : Rel K mg Γ ρ σ (L2.upd H p o) F :=
  ⟨r.lr, r.lg, fun i m d g1 g2 => by
    obtain ⟨v, h1, h2⟩ := r.slot i m d g1 g2
    refine ⟨v, h1, ?_⟩
    have cell : m.mut = true → Cell K mg H F v d → Cell K mg (L2.upd H p o) F v d := fun mu c => by
      unfold Cell at c ⊢
      split
      · rename_i hc
        rw [if_pos hc] at c
        obtain ⟨q, w, e1, e2, e3, e4⟩ := c
        subst e1
        exact ⟨q, w, rfl, by rw [upd_ne (fun x => by subst x; exact n ⟨i, m, d, g1, mu, g2, hc, h1⟩)]; exact e2, e3, e4⟩
      · rename_i hc
        rw [if_neg hc] at c
        exact c
    cases m with
    | xc a c x => exact h2
    | fz => exact h2
    | own => exact cell rfl h2
    | io q => exact ⟨h2.1, h2.2.1, cell rfl h2.2.2⟩
    | brw =>
      have h2 : RdN K mg (Own Γ ρ σ) H F v d := h2
      show RdN K mg (Own Γ ρ σ) (L2.upd H p o) F v d
      unfold RdN at h2 ⊢
      split
      · rename_i hc
        rw [if_pos hc] at h2
        obtain ⟨q, w, e1, e2, e3, e4⟩ := h2
        subst e1
        exact ⟨q, w, rfl, by rw [upd_ne (fun x => by subst x; exact nb i ⟨d, g1, g2, hc, h1⟩)]; exact e2, e3, e4⟩
      · rename_i hc
        rw [if_neg hc] at h2
        exact h2, r.inj, fun b x e => by rw [upd_ne (ne_of_none e f)]; exact r.sub _ _ e⟩
theorem Evo.updNew (e : Evo O H F O' H' F') (hp : H p = none) (hf : F' p = none) : Evo O H F O' (L2.upd H' p o) F' :=
  ⟨e.sf, fun b x k => by rw [upd_ne (ne_of_none k hf)]; exact e.sh _ _ k, fun q x k1 k2 n => by
    rw [upd_ne (ne_of_none k1 hp)]; exact e.kp q x k1 k2 n, fun q k => by
    by_cases z : q = p
    · subst z; exact hp
    · rw [upd_ne z] at k; exact e.dom q k, e.ow, e.ob⟩
end

section
variable {X : Cx} {Γ Γ' Γ1 Γ2 Γ3 : Gm} {S : SC} {W : WE} {tg iter elt : Expr} {ifs : List Expr} {pos : Pos} {ev : Ev} {et : Et} {f : Eit} {t : Tg} {scope : Scope} {own : List (Str × Nat)}
abbrev VTs (X : Cx) (Γ Γ' : Gm) (W : WE) (ifs : List Expr) (et : Et) : Prop := PTs X ifs (trT X Γ Γ' W et)
theorem vts_nil : VTs X Γ Γ W [] tYesE := ⟨fun pins s σ H Q I ⟨ρ, F, r, q⟩ => pts_nil.run pins s σ H Q I (q H F (Evo.refl r.sub) r)⟩
theorem vts_one {c : Expr} (h : VT X Γ Γ' W c et) : VTs X Γ Γ' W [c] et := pts_one h
theorem lc_tr {σ : St} {H : Hp} {Q : VK} {vs : List Nat} (hv : ∀ v ∈ vs, Γ1[v]? = some .fz) (h : trE X Γ Γ1 W .own (eLC f vs t et ev) σ H Q) :
    tLc (trI X Γ Γ1 W f) (trG X Γ1 vs t) (trT X Γ1 Γ1 WF et) (trE X Γ1 Γ1 WF .fz ev) vs σ H Q := by
  obtain ⟨ρ, F, r, q⟩ := h
  refine ⟨ρ, F, r, Res.sat_imp (Res.sat_bind.mp q) (fun z _ q J H1 F1 e1 r1 wk DD hD => ?_) fun _ h => h⟩
  by_cases hz : z.1.length ≤ 16777216
  · rw [if_pos hz] at q
    have q := Res.sat_bind.mp q
    obtain ⟨G, g0, gs, gt⟩ := wk
    obtain ⟨rw1, ow1⟩ := r1.wipe hv
    have nD : ∀ {O' : Ft} {H' F' : Hp}, Evo (Own Γ1 z.2 σ) H1 F1 O' H' F' → (∀ j, ¬ O'.b j DD) := fun e j hb => by
      obtain ⟨o, ho⟩ := r1.brwThere j DD (e.ob j DD hb)
      rw [hD] at ho; cases ho
    have D0 : ¬ (Own Γ1 z.2 σ).o DD := fun hb => by
      obtain ⟨o, ho, _⟩ := Own.there r1 hb
      rw [hD] at ho; cases ho
    have fD : F1 DD = none := L2.Same.free r1.sub hD
    -- what holds between two turns
    let Inv := fun (l : List VL.D) (acc : List VL.D) (H' : Hp) => ∃ ρ' F' ws, Rel X.K X.mg Γ1 ρ' (L2.wipe σ vs) H' F' ∧ G ((Own Γ1 ρ' (L2.wipe σ vs)).add DD) H' F' ∧ Evo (Own Γ1 z.2 σ) H1 F1 (Own Γ1 ρ' (L2.wipe σ vs)) H' F' ∧
      H' DD = some (.lst ws) ∧ F' DD = none ∧ ¬ (Own Γ1 ρ' (L2.wipe σ vs)).o DD ∧ reps X.K X.mg F' acc ws ∧
      (lcGo vs t et ev l acc ρ').sat (fun r => ∀ v H2 F2, Evo (Own Γ ρ σ) H F (Own Γ1 (backE z.2 r.2 vs) σ) H2 F2 → Rel X.K X.mg Γ1 (backE z.2 r.2 vs) σ H2 F2 → ValOk X.K X.mg .own (Own Γ1 (backE z.2 r.2 vs) σ) H H2 F2 v (.lst r.1) → Q v H2) (exW W Γ ρ σ H F)
    refine ⟨fun i m H' => m = z.1.length - i ∧ i ≤ z.1.length ∧ ∃ acc, acc.length ≤ i ∧ Inv (z.1.drop i) acc H', ⟨_, rfl, Nat.zero_le _, [], Nat.le_refl _, wipeE z.2 vs, F1, [], ?_⟩, ?_⟩
    · refine ⟨rw1.side (o := .lst []) fD (by rw [ow1]; exact D0) (by rw [ow1]; exact nD (Evo.refl r1.sub)), ?_, ?_, upd_same, fD, by rw [ow1]; exact D0, reps_nil, by rw [List.drop_zero]; exact q⟩
      · rw [ow1]; exact gs _ _ _ _ _ _ g0 (Evo.start r1.sub hD)
      · rw [ow1]; exact (Evo.refl r1.sub).updNew hD fD
    · rintro i m H' ⟨rfl, hi, acc, ha, ρ', F', ws, r2, g2, e2, hD2, fD2, oD2, ra, q2⟩
      obtain ⟨t1, t2⟩ := gt i _ H' F' g2 r2.sub
      rcases Nat.lt_or_ge i z.1.length with hl | hl
      · obtain ⟨d, hd⟩ : ∃ d, z.1[i]? = some d := ⟨_, List.getElem?_eq_getElem hl⟩
        obtain ⟨go, yl⟩ := t1 d hd
        have dr : z.1.drop i = d :: z.1.drop (i + 1) := by
          rw [List.drop_eq_getElem_cons hl]
          rw [List.getElem?_eq_getElem hl] at hd
          cases hd; rfl
        rw [dr] at q2
        obtain ⟨ρ3, hb3, q3⟩ := opt_sat (Res.sat_bind.mp q2)
        refine .inr ⟨go, fun H3 => ∃ acc, acc.length ≤ i + 1 ∧ Inv (z.1.drop (i + 1)) acc H3, fun H3 h3 => ⟨z.1.length - (i + 1), by omega, rfl, hl, h3⟩, fun x H3 y => ?_⟩
        obtain ⟨F3, gr, rx⟩ := yl x H3 y
        refine ⟨ρ', F3, d, ρ3, r2.grow gr, rx, hb3, fun σ4 ⟨m1, m2, m3⟩ => ?_⟩
        have lens : (L2.wipe σ vs).length = σ4.length := by rw [← r2.lg, ← m1.lg]
        have wk4 : L2.wipe σ4 vs = L2.wipe σ vs := by
          have h1 := wipe_keep lens m3
          have h2 : L2.wipe (L2.wipe σ vs) vs = L2.wipe σ vs := wipe_keep (by rw [L2.wipe_length]) (⟨L2.wipe_length σ vs, fun j hj => wipe_out hj⟩)
          rw [h1, h2]
        refine ⟨wk4, ρ3, F3, m1, Res.sat_imp (noexn_sat (E' := fun _ => False) (Res.sat_bind.mp q3)) (fun c _ q4 H5 F5 e5 r5 => ?_) fun _ h => h.elim⟩
        have e4 := e2.trans (gr.evo.trans m2)
        -- the list being made stands
        have keepD : ∀ {O' : Ft} {H6 F6 : Hp}, Evo (Own Γ1 ρ' (L2.wipe σ vs)) H' F' O' H6 F6 → H6 DD = some (.lst ws) ∧ F6 DD = none ∧ ¬ O'.o DD := fun {O' H6 F6} e => by
          obtain ⟨k1, k2⟩ := e.kp DD _ hD2 fD2 oD2
          refine ⟨k1, k2, fun z => ?_⟩
          rcases e.ow DD z with w | w
          · exact oD2 w
          · rw [hD2] at w; cases w
        have e35 := (gr.evo.trans m2).trans e5
        dsimp only
        split
        · rename_i hc
          rw [if_pos hc] at q4
          refine ⟨c.2, F5, r5, Res.sat_imp (noexn_sat (E' := fun _ => False) (Res.sat_bind.mp q4)) (fun y _ q5 w H6 F6 e6 r6 vo => ?_) fun _ h => h.elim⟩
          have e36 := e35.trans e6
          obtain ⟨k1, k2, k3⟩ := keepD e36
          have vo : rep X.K X.mg F6 y.1 w := vo
          obtain ⟨r7, o7⟩ := r6.wipe hv
          rw [wk4] at r7 o7
          have e16 := e2.trans e36
          refine ⟨ws, k1, by rw [sizeLine_eq, reps_length ra]; omega, acc ++ [y.1], by simp; omega, wipeE y.2 vs, F6, ws ++ [w], ?_⟩
          have nb := nD e16
          refine ⟨r7.side k2 (by rw [o7]; exact k3) (by rw [o7]; exact nb), ?_, ?_, upd_same, k2, by rw [o7]; exact k3, reps_append (reps_mono e36.sf ra) (reps_one vo), q5⟩
          · rw [o7]
            exact gs _ _ _ _ _ _ (gs _ _ _ _ _ _ g2 e36.add) (Evo.write r6.sub k2 k1)
          · rw [o7]
            exact e16.updNew hD k2
        · rename_i hc
          rw [if_neg hc] at q4
          obtain ⟨k1, k2, k3⟩ := keepD e35
          obtain ⟨r7, o7⟩ := r5.wipe hv
          rw [wk4] at r7 o7
          refine ⟨acc, by omega, wipeE c.2 vs, F5, ws, r7, ?_, ?_, k1, k2, by rw [o7]; exact k3, reps_mono e35.sf ra, q4⟩
          · rw [o7]; exact gs _ _ _ _ _ _ g2 e35.add
          · rw [o7]; exact e2.trans e35
      · have e : i = z.1.length := by omega
        refine .inl ⟨t2 e, ?_⟩
        rw [e, List.drop_length] at q2
        have bo := back_own (ρ1 := z.2) (ρ2 := ρ') (σ := σ) hv
        refine q2 (.ref DD) H' F' ?_ (r1.back r2 e2.sf hv) ⟨?_, fun _ p hp => ?_⟩
        · rw [bo]; exact e1.trans e2
        · unfold Cell
          rw [if_pos (show cellD (.lst _) = true from rfl)]
          exact ⟨DD, _, rfl, hD2, ⟨ws, rfl, ra⟩, fD2⟩
        · cases hp
          exact ⟨e1.dom DD hD, by rw [bo]; exact oD2⟩
  · rw [if_neg hz] at q; exact q.elim
theorem ve_lc (hc : X.calm = true) (hN : X.N.Nodup) (hi : VI X Γ Γ1 W tg iter f) (ok : BlkOk X.N X.env.scope scope own) (hv : ∀ v ∈ own.map (·.2), Γ1[v]? = some .fz)
    (hg : ∀ (s : Shared) (H : Hp) (C : Addr) (cl : List (Str × Addr)) (fp : List Addr), VG (X.blk s H scope (compEnvC scope cl C X.env) fp) Γ1 (own.map (·.2)) tg t)
    (ht : ∀ (s : Shared) (H : Hp) (C : Addr) (cl : List (Str × Addr)) (fp : List Addr), VTs (X.blk s H scope (compEnvC scope cl C X.env) fp) Γ1 Γ1 WF ifs et)
    (he : ∀ (s : Shared) (H : Hp) (C : Addr) (cl : List (Str × Addr)) (fp : List Addr), VE (X.blk s H scope (compEnvC scope cl C X.env) fp) Γ1 Γ1 WF elt .fz ev) (hs : ∀ x, foldedSetIterable iter X.env x = pure x := by intro _; rfl) :
    VE X Γ Γ1 W (.ListComp elt [⟨tg, iter, ifs, 0⟩] scope pos) .own (eLC f (own.map (·.2)) t et ev) :=
  peImp (pe_lc hc hN hi ok hg ht he hs) fun σ H Q h => lc_tr hv h
/-- x = [..] on one line -/
theorem vs_setLc {i : Nat} {y : Str} {py : Pos} {spos : Pos} {m : Md} (hc : X.calm = true) (hN : X.N.Nodup) (hy : X.N[i]? = some y) (hyl : X.env.scope.names.lookup y = some .local)
    (hsw : swapsWith (.ListComp elt [⟨tg, iter, ifs, 0⟩] scope pos) (some (.Name y py)) spos.line X.env = pure true) (hi : VI X Γ Γ1 W tg iter f) (ok : BlkOk X.N X.env.scope scope own) (hv : ∀ v ∈ own.map (·.2), Γ1[v]? = some .fz)
    (hg : ∀ (s : Shared) (H : Hp) (C : Addr) (cl : List (Str × Addr)) (fp : List Addr), VG (X.blk s H scope (compEnvC scope cl C X.env) fp) Γ1 (own.map (·.2)) tg t)
    (ht : ∀ (s : Shared) (H : Hp) (C : Addr) (cl : List (Str × Addr)) (fp : List Addr), VTs (X.blk s H scope (compEnvC scope cl C X.env) fp) Γ1 Γ1 WF ifs et)
    (he : ∀ (s : Shared) (H : Hp) (C : Addr) (cl : List (Str × Addr)) (fp : List Addr), VE (X.blk s H scope (compEnvC scope cl C X.env) fp) Γ1 Γ1 WF elt .fz ev)
    (hm : m = .own ∨ m = .fz) (hl : i < Γ1.length) (ha : i ∈ S.As) (hs : ∀ x, foldedSetIterable iter X.env x = pure x := by intro _; rfl) :
    VS X Γ (Γ1.set i m) S W (.Assign [.Name y py] (.ListComp elt [⟨tg, iter, ifs, 0⟩] scope pos) spos) (sSet i (eLC f (own.map (·.2)) t et ev)) :=
  psImp (ps_setLc hc hN hy hyl hsw hi ok hg ht he hs) fun D σ H ⟨ρ, F, r, q⟩ => by
    refine lc_tr hv ⟨ρ, F, r, Res.sat_imp (Res.sat_bind.mp q) (fun z _ q v H' F' ee r1 vo => ?_) fun _ h => h.ex⟩
    rcases hm with rfl | rfl
    · obtain ⟨r2, e2⟩ := r1.setM hl ee r.brwThere vo (.inr rfl)
      exact q _ H' F' e2 (Keep.set ha) r2
    · obtain ⟨c, n⟩ := vo
      unfold Cell at c
      by_cases hc : cellD z.1 = true
      · rw [if_pos hc] at c
        obtain ⟨p, o, e2, k1, k2, k3⟩ := c
        subst e2
        obtain ⟨n1, n2⟩ := n hc p rfl
        have ef := ee.frz k1 k3 fun u z _ => by rw [n1] at z; cases z
        obtain ⟨r2, e2⟩ := (r1.frz k1 k3 n2).setM (m := .fz) hl ef r.brwThere ((rep_cell hc).mpr ⟨p, o, rfl, upd_same, cont_mono (Same.updF k3) k2⟩) (.inl rfl)
        exact q _ H' _ e2 (Keep.set ha) r2
      · rw [if_neg hc] at c
        obtain ⟨r2, e2⟩ := r1.setM (m := .fz) hl ee r.brwThere c (.inl rfl)
        exact q _ H' F' e2 (Keep.set ha) r2
end
end VL

set_option Elab.async false
set_option linter.all false
set_option maxRecDepth 100000
/-! VL10: defs and their calls. -/
namespace VL
open PySem PySem.Spec PyProof.Rows L2

inductive PM where
  | fz | brw | io
  deriving DecidableEq
/-- the objects handed over to be changed -/
def ioAd : List PM → List V → List Addr
  | .io :: ms, .ref p :: vs => p :: ioAd ms vs
  | _ :: ms, _ :: vs => ioAd ms vs
  | _, _ => []
def InL (l : List Addr) : Ft := ⟨fun p => p ∈ l, fun _ _ => False⟩
section
variable (K : PySem.W.Frag) (mg : Str → Option Value)
def PArg (I : List Addr) (H F : Hp) : PM → V → D → Prop
  | .fz, v, d => rep K mg F d v
  | .brw, v, d => RdN K mg (InL I) H F v d
  | .io, v, d => ∃ p, v = .ref p ∧ p ∈ I ∧ cellD d = true ∧ Cell K mg H F v d
def PArgs (I : List Addr) (H F : Hp) : List PM → List V → List D → Prop
  | [], vs, ds => vs = [] ∧ ds = []
  | m :: ms, vs, ds => ∃ v w d e, vs = v :: w ∧ ds = d :: e ∧ PArg K mg I H F m v d ∧ PArgs I H F ms w e
def IoBack (I : List Addr) (outs : List D) (H' F' : Hp) : Prop := outs.length = I.length ∧ ∀ (k : Nat) (p : Addr) (d : D), I[k]? = some p → outs[k]? = some d → cellD d = true ∧ Cell K mg H' F' (.ref p) d
/-- how a call leaves the heap: only the objects handed over may be changed -/
structure FEvo (I : List Addr) (H F H' F' : Hp) : Prop where
  sf : Same F F'
  sh : Same F' H'
  kp : ∀ p o, H p = some o → F p = none → p ∉ I → H' p = some o ∧ F' p = none
  dom : ∀ p, H' p = none → H p = none
def RetF (rm : Md) (H H' F' : Hp) (v : V) (d : D) : Prop :=
  match rm with
  | .own => Cell K mg H' F' v d ∧ (cellD d = true → ∀ p, v = .ref p → H p = none)
  | _ => rep K mg F' d v
abbrev Fe := List D → Res (D × List D)
/-- a wish about exceptions, at a call -/
abbrev XW := Exn → Hp → Hp → XK → Prop
def spFn (pms : List PM) (rm : Md) (f : Fe) (EX : XW) : Sp := fun vs H Q E => vs.length = pms.length ∧ ∃ F ds, Same F H ∧ PArgs K mg (ioAd pms vs) H F pms vs ds ∧ (ioAd pms vs).Nodup ∧
  (f ds).sat (fun r => ∀ v H' F', FEvo (ioAd pms vs) H F H' F' → IoBack K mg (ioAd pms vs) r.2 H' F' → RetF K mg rm H H' F' v r.1 → Q v H') (fun x => ∀ H' F', FEvo (ioAd pms vs) H F H' F' → EX x H' F' E)
end

/-! ### the callee -/
def g0 : List PM → List V → Gm
  | .fz :: ms, _ :: vs => .fz :: g0 ms vs
  | .brw :: ms, _ :: vs => .brw :: g0 ms vs
  | .io :: ms, .ref p :: vs => .io p :: g0 ms vs
  | .io :: ms, _ :: vs => .fz :: g0 ms vs
  | _, _ => []
def io0 : Nat → List PM → List V → List (Nat × Addr)
  | i, .io :: ms, .ref p :: vs => (i, p) :: io0 (i + 1) ms vs
  | i, _ :: ms, _ :: vs => io0 (i + 1) ms vs
  | _, _, _ => []
def ioIx : Nat → List PM → List Nat
  | i, .io :: ms => i :: ioIx (i + 1) ms
  | i, _ :: ms => ioIx (i + 1) ms
  | _, [] => []
def outsOf : List Nat → Env → Res (List D)
  | [], _ => .ok []
  | i :: is, ρ => (gv ρ i).bind fun d => (outsOf is ρ).bind fun ds => .ok (d :: ds)
def fnEv (pms : List PM) (n : Nat) (body : Es) : Fe := fun ds => (body (ds.map some ++ List.replicate (n - ds.length) none)).bind fun fl => match fl with
  | .ret d ρ => (outsOf (ioIx 0 pms) ρ).bind fun os => .ok (d, os)
  | .next ρ => (outsOf (ioIx 0 pms) ρ).bind fun os => .ok (.non, os)
  | _ => .bad
section
variable {K : PySem.W.Frag} {mg : Str → Option Value} {Γ : Gm} {ρ : Env} {σ : St} {H F H' F' : Hp} {I : List Addr}
theorem outs_sat {P : List D → Prop} {E : Exn → Prop} : ∀ {is : List Nat}, (outsOf is ρ).sat P E → ∃ ds, P ds ∧ ds.length = is.length ∧ ∀ (k i : Nat) (d : D), is[k]? = some i → ds[k]? = some d → ρ[i]? = some (some d)
  | [], h => ⟨[], h, rfl, fun k i d h => by simp at h⟩
  | i :: is, h => by
    obtain ⟨d, hd, h⟩ := gv_sat (Res.sat_bind.mp h)
    obtain ⟨ds, h1, h2, h3⟩ := outs_sat (is := is) (Res.sat_bind.mp h)
    refine ⟨d :: ds, h1, by simp [h2], fun k j e hk he => ?_⟩
    cases k with
    | zero => simp at hk he; subst hk he; exact hd
    | succ k => exact h3 k j e (by simpa using hk) (by simpa using he)
theorem PArgs.len : ∀ {ms : List PM} {vs : List V} {ds : List D}, PArgs K mg I H F ms vs ds → vs.length = ms.length ∧ ds.length = ms.length
  | [], _, _, ⟨h1, h2⟩ => by subst h1 h2; exact ⟨rfl, rfl⟩
  | m :: ms, _, _, ⟨v, w, d, e, h1, h2, _, h4⟩ => by
    subst h1 h2
    obtain ⟨k1, k2⟩ := h4.len
    exact ⟨by simp [k1], by simp [k2]⟩
theorem PArgs.get : ∀ {ms : List PM} {vs : List V} {ds : List D} {i : Nat} {m : PM}, PArgs K mg I H F ms vs ds → ms[i]? = some m → ∃ v d, vs[i]? = some v ∧ ds[i]? = some d ∧ PArg K mg I H F m v d
  | [], _, _, _, _, _, e => by simp at e
  | m :: ms, _, _, 0, _, ⟨v, w, d, e, h1, h2, h3, h4⟩, he => by
    simp at he; subst h1 h2 he
    exact ⟨v, d, rfl, rfl, h3⟩
  | m :: ms, _, _, i + 1, _, ⟨v, w, d, e, h1, h2, h3, h4⟩, he => by
    subst h1 h2
    obtain ⟨v', d', k1, k2, k3⟩ := h4.get (i := i) (by simpa using he)
    exact ⟨v', d', by simpa using k1, by simpa using k2, k3⟩
/-- the modes at the L2.start, by the places -/
theorem g0_get : ∀ {ms : List PM} {vs : List V} {ds : List D} {i : Nat} {m : Md}, PArgs K mg I H F ms vs ds → (g0 ms vs)[i]? = some m →
    ∃ v d, vs[i]? = some v ∧ ds[i]? = some d ∧ ((m = .fz ∧ rep K mg F d v) ∨ (m = .brw ∧ RdN K mg (InL I) H F v d) ∨ ∃ p, m = .io p ∧ v = .ref p ∧ p ∈ I ∧ cellD d = true ∧ Cell K mg H F v d)
  | [], _, _, _, _, ⟨h1, h2⟩, e => by subst h1 h2; simp [g0] at e
  | pm :: ms, _, _, i, m, ⟨v, w, d, e, h1, h2, h3, h4⟩, he => by
    subst h1 h2
    have step : ∀ {x : Md}, g0 (pm :: ms) (v :: w) = x :: g0 ms w → ((x = .fz ∧ rep K mg F d v) ∨ (x = .brw ∧ RdN K mg (InL I) H F v d) ∨ ∃ p, x = .io p ∧ v = .ref p ∧ p ∈ I ∧ cellD d = true ∧ Cell K mg H F v d) →
        ∃ v' d', (v :: w)[i]? = some v' ∧ (d :: e)[i]? = some d' ∧ ((m = .fz ∧ rep K mg F d' v') ∨ (m = .brw ∧ RdN K mg (InL I) H F v' d') ∨ ∃ p, m = .io p ∧ v' = .ref p ∧ p ∈ I ∧ cellD d' = true ∧ Cell K mg H F v' d') := fun {x} e1 h0 => by
      rw [e1] at he
      cases i with
      | zero => simp at he; subst he; exact ⟨v, d, rfl, rfl, h0⟩
      | succ i =>
        obtain ⟨v', d', k1, k2, k3⟩ := g0_get h4 (i := i) (by simpa using he)
        exact ⟨v', d', by simpa using k1, by simpa using k2, k3⟩
    cases pm with
    | fz => exact step (by simp only [g0]) (.inl ⟨rfl, h3⟩)
    | brw => exact step (by simp only [g0]) (.inr (.inl ⟨rfl, h3⟩))
    | io =>
      obtain ⟨p, rfl, k1, k2, k3⟩ := h3
      exact step (by simp only [g0]) (.inr (.inr ⟨p, rfl, rfl, k1, k2, k3⟩))
theorem g0_length : ∀ {ms : List PM} {vs : List V}, vs.length = ms.length → (g0 ms vs).length = ms.length
  | [], [], _ => rfl
  | [], _ :: _, h => by simp at h
  | _ :: _, [], h => by simp at h
  | m :: ms, v :: vs, h => by
    have ih := g0_length (ms := ms) (vs := vs) (by simpa using h)
    cases m with
    | fz => simp only [g0, List.length_cons, ih]
    | brw => simp only [g0, List.length_cons, ih]
    | io => cases v <;> simp only [g0, List.length_cons, ih]
/-- where the objects handed over stand -/
theorem g0_io : ∀ {ms : List PM} {vs : List V} {i : Nat} {p : Addr}, (g0 ms vs)[i]? = some (Md.io p) → vs[i]? = some (.ref p) ∧ p ∈ ioAd ms vs
  | [], vs, _, _, e => by cases vs <;> simp [g0] at e
  | m :: ms, [], _, _, e => by cases m <;> simp [g0] at e
  | m :: ms, v :: vs, i, p, e => by
    cases m with
    | fz =>
      simp only [g0] at e
      cases i with
      | zero => simp at e
      | succ i => obtain ⟨k1, k2⟩ := g0_io (ms := ms) (vs := vs) (i := i) (by simpa using e); exact ⟨by simpa using k1, by simpa [ioAd] using k2⟩
    | brw =>
      simp only [g0] at e
      cases i with
      | zero => simp at e
      | succ i => obtain ⟨k1, k2⟩ := g0_io (ms := ms) (vs := vs) (i := i) (by simpa using e); exact ⟨by simpa using k1, by simpa [ioAd] using k2⟩
    | io =>
      cases v with
      | ref q =>
        simp only [g0] at e
        cases i with
        | zero => simp at e; subst e; exact ⟨rfl, by simp [ioAd]⟩
        | succ i => obtain ⟨k1, k2⟩ := g0_io (ms := ms) (vs := vs) (i := i) (by simpa using e); exact ⟨by simpa using k1, by simp only [ioAd, List.mem_cons]; exact .inr k2⟩
      | _ =>
        simp only [g0] at e
        cases i with
        | zero => simp at e
        | succ i => obtain ⟨k1, k2⟩ := g0_io (ms := ms) (vs := vs) (i := i) (by simpa using e); exact ⟨by simpa using k1, by simpa [ioAd] using k2⟩
theorem g0_inj : ∀ {ms : List PM} {vs : List V} {i j : Nat} {p : Addr}, (ioAd ms vs).Nodup → (g0 ms vs)[i]? = some (Md.io p) → (g0 ms vs)[j]? = some (Md.io p) → i = j
  | [], vs, _, _, _, _, e, _ => by cases vs <;> simp [g0] at e
  | m :: ms, [], _, _, _, _, e, _ => by cases m <;> simp [g0] at e
  | m :: ms, v :: vs, i, j, p, nd, e1, e2 => by
    cases m with
    | fz =>
      simp only [g0] at e1 e2
      cases i <;> cases j <;> simp at e1 e2
      rw [g0_inj (ms := ms) (vs := vs) (by simpa [ioAd] using nd) e1 e2]
    | brw =>
      simp only [g0] at e1 e2
      cases i <;> cases j <;> simp at e1 e2
      rw [g0_inj (ms := ms) (vs := vs) (by simpa [ioAd] using nd) e1 e2]
    | io =>
      cases v with
      | ref q =>
        simp only [g0] at e1 e2
        simp only [ioAd, List.nodup_cons] at nd
        cases i <;> cases j <;> simp at e1 e2
        · rfl
        · subst e1; exact absurd (g0_io e2).2 nd.1
        · subst e2; exact absurd (g0_io e1).2 nd.1
        · rw [g0_inj nd.2 e1 e2]
      | _ =>
        simp only [g0] at e1 e2
        cases i <;> cases j <;> simp at e1 e2
        rw [g0_inj (ms := ms) (vs := vs) (by simpa [ioAd] using nd) e1 e2]
theorem g0_mem : ∀ {ms : List PM} {vs : List V} {p : Addr}, p ∈ ioAd ms vs → ∃ i : Nat, (g0 ms vs)[i]? = some (Md.io p)
  | [], vs, _, h => by cases vs <;> simp [ioAd] at h
  | m :: ms, [], _, h => by cases m <;> simp [ioAd] at h
  | m :: ms, v :: vs, p, h => by
    cases m with
    | fz => obtain ⟨i, hi⟩ := g0_mem (ms := ms) (vs := vs) (p := p) (by simpa [ioAd] using h); exact ⟨i + 1, by simpa [g0] using hi⟩
    | brw => obtain ⟨i, hi⟩ := g0_mem (ms := ms) (vs := vs) (p := p) (by simpa [ioAd] using h); exact ⟨i + 1, by simpa [g0] using hi⟩
    | io =>
      cases v with
      | ref q =>
        simp only [ioAd, List.mem_cons] at h
        rcases h with rfl | h
        · exact ⟨0, by simp [g0]⟩
        · obtain ⟨i, hi⟩ := g0_mem h; exact ⟨i + 1, by simpa [g0] using hi⟩
      | _ => obtain ⟨i, hi⟩ := g0_mem (ms := ms) (vs := vs) (p := p) (by simpa [ioAd] using h); exact ⟨i + 1, by simpa [g0] using hi⟩
theorem io0_get : ∀ {ms : List PM} {vs : List V} {n i : Nat} {p : Addr}, (i, p) ∈ io0 n ms vs → ∃ k : Nat, i = n + k ∧ (g0 ms vs)[k]? = some (Md.io p)
  | [], vs, _, _, _, h => by cases vs <;> simp [io0] at h
  | m :: ms, [], _, _, _, h => by cases m <;> simp [io0] at h
  | m :: ms, v :: vs, n, i, p, h => by
    cases m with
    | fz => obtain ⟨k, h1, h2⟩ := io0_get (ms := ms) (vs := vs) (n := n + 1) (by simpa [io0] using h); exact ⟨k + 1, by omega, by simpa [g0] using h2⟩
    | brw => obtain ⟨k, h1, h2⟩ := io0_get (ms := ms) (vs := vs) (n := n + 1) (by simpa [io0] using h); exact ⟨k + 1, by omega, by simpa [g0] using h2⟩
    | io =>
      cases v with
      | ref q =>
        simp only [io0, List.mem_cons] at h
        rcases h with h | h
        · cases h; exact ⟨0, by omega, by simp [g0]⟩
        · obtain ⟨k, h1, h2⟩ := io0_get h; exact ⟨k + 1, by omega, by simpa [g0] using h2⟩
      | _ => obtain ⟨k, h1, h2⟩ := io0_get (ms := ms) (vs := vs) (n := n + 1) (by simpa [io0] using h); exact ⟨k + 1, by omega, by simpa [g0] using h2⟩
/-- the places of what is handed back and the objects, in order -/
theorem io0_at : ∀ {ms : List PM} {vs : List V} {n k : Nat} {p : Addr}, (∀ (i : Nat) (v : V), ms[i]? = some PM.io → vs[i]? = some v → ∃ q, v = .ref q) → vs.length = ms.length → (ioAd ms vs)[k]? = some p → ∃ i : Nat, (ioIx n ms)[k]? = some i ∧ (i, p) ∈ io0 n ms vs
  | [], vs, _, _, _, _, _, h => by cases vs <;> simp [ioAd] at h
  | m :: ms, [], _, _, _, _, hl, _ => by simp at hl
  | m :: ms, v :: vs, n, k, p, hr, hl, h => by
    have hr' : ∀ (i : Nat) (v : V), ms[i]? = some PM.io → vs[i]? = some v → ∃ q, v = .ref q := fun i w h1 h2 => hr (i + 1) w (by simpa using h1) (by simpa using h2)
    have hl' : vs.length = ms.length := by simpa using hl
    cases m with
    | fz => obtain ⟨i, h1, h2⟩ := io0_at (n := n + 1) hr' hl' (by simpa [ioAd] using h); exact ⟨i, by simpa [ioIx] using h1, by simpa [io0] using h2⟩
    | brw => obtain ⟨i, h1, h2⟩ := io0_at (n := n + 1) hr' hl' (by simpa [ioAd] using h); exact ⟨i, by simpa [ioIx] using h1, by simpa [io0] using h2⟩
    | io =>
      obtain ⟨q, rfl⟩ := hr 0 v rfl rfl
      simp only [ioAd] at h
      cases k with
      | zero => simp at h; subst h; exact ⟨n, by simp [ioIx], by simp [io0]⟩
      | succ k =>
        obtain ⟨i, h1, h2⟩ := io0_at (n := n + 1) hr' hl' (k := k) (by simpa using h)
        exact ⟨i, by simpa [ioIx] using h1, by simp only [io0, List.mem_cons]; exact .inr h2⟩
theorem ioIx_length : ∀ {ms : List PM} {vs : List V} {n : Nat}, (∀ (i : Nat) (v : V), ms[i]? = some PM.io → vs[i]? = some v → ∃ q, v = .ref q) → vs.length = ms.length → (ioIx n ms).length = (ioAd ms vs).length
  | [], [], _, _, _ => rfl
  | [], _ :: _, _, _, h => by simp at h
  | m :: ms, [], _, _, hl => by simp at hl
  | m :: ms, v :: vs, n, hr, hl => by
    have hr' : ∀ (i : Nat) (v : V), ms[i]? = some PM.io → vs[i]? = some v → ∃ q, v = .ref q := fun i w h1 h2 => hr (i + 1) w (by simpa using h1) (by simpa using h2)
    have ih := ioIx_length (n := n + 1) hr' (by simpa using hl)
    cases m with
    | fz => simpa [ioIx, ioAd] using ih
    | brw => simpa [ioIx, ioAd] using ih
    | io =>
      obtain ⟨q, rfl⟩ := hr 0 v rfl rfl
      simp only [ioIx, ioAd, List.length_cons, ih]
/-- the state at a def's L2.start -/
theorem rel_start {ms : List PM} {vs : List V} {ds : List D} {N : List Str} (s : Same F H) (h : PArgs K mg (ioAd ms vs) H F ms vs ds) (nd : (ioAd ms vs).Nodup) (hN : ms.length ≤ N.length) :
    Rel K mg (g0 ms vs ++ List.replicate (N.length - ms.length) .fz) (ds.map some ++ List.replicate (N.length - ds.length) none) (L2.start N vs) H F ∧
    ∀ p, (Own (g0 ms vs ++ List.replicate (N.length - ms.length) .fz) (ds.map some ++ List.replicate (N.length - ds.length) none) (L2.start N vs)).o p → p ∈ ioAd ms vs := by
  obtain ⟨l1, l2⟩ := h.len
  have l3 := g0_length l1
  have lst : (L2.start N vs).length = N.length := by unfold L2.start; rw [List.length_append, List.length_map, List.length_replicate]; omega
  have gΓ : ∀ i m d, (g0 ms vs ++ List.replicate (N.length - ms.length) Md.fz)[i]? = some m → (ds.map some ++ List.replicate (N.length - ds.length) none)[i]? = some (some d) → i < ms.length ∧ (g0 ms vs)[i]? = some m ∧ ds[i]? = some d := fun i m d g1 g2 => by
    by_cases hi : i < ms.length
    · rw [List.getElem?_append_left (by omega)] at g1
      rw [List.getElem?_append_left (by rw [List.length_map]; omega), List.getElem?_map] at g2
      refine ⟨hi, g1, ?_⟩
      cases e : ds[i]? with
      | none => rw [e] at g2; cases g2
      | some x => rw [e] at g2; cases g2; rfl
    · rw [List.getElem?_append_right (by rw [List.length_map]; omega)] at g2
      rw [List.getElem?_replicate] at g2
      split at g2 <;> cases g2
  have gσ : ∀ i v, vs[i]? = some v → (L2.start N vs)[i]? = some (some v) := fun i v e => by
    unfold L2.start
    have hi : i < vs.length := by
      rcases Nat.lt_or_ge i vs.length with q | q
      · exact q
      · rw [List.getElem?_eq_none q] at e; cases e
    rw [List.getElem?_append_left (by rw [List.length_map]; exact hi), List.getElem?_map, e]; rfl
  have own : ∀ j p, OwnAt (g0 ms vs ++ List.replicate (N.length - ms.length) .fz) (ds.map some ++ List.replicate (N.length - ds.length) none) (L2.start N vs) j p → (g0 ms vs)[j]? = some (Md.io p) := by
    rintro j p ⟨m, d, k1, k2, k3, k4, k5⟩
    obtain ⟨hi, q1, q2⟩ := gΓ j m d k1 k3
    obtain ⟨v, d', a1, a2, a3⟩ := g0_get h q1
    have := gσ j v a1
    rw [k5] at this; cases this
    rcases a3 with ⟨rfl, _⟩ | ⟨rfl, _⟩ | ⟨q, rfl, e, _⟩
    · cases k2
    · cases k2
    · cases e; exact q1
  have ownI : ∀ p, (Own (g0 ms vs ++ List.replicate (N.length - ms.length) .fz) (ds.map some ++ List.replicate (N.length - ds.length) none) (L2.start N vs)).o p → p ∈ ioAd ms vs := fun p ⟨j, hj⟩ => (g0_io (own j p hj)).2
  refine ⟨⟨by rw [List.length_append, List.length_map, List.length_replicate, lst]; omega, by rw [List.length_append, List.length_replicate, lst]; omega, fun i m d g1 g2 => ?_, fun a b p ga gb => g0_inj nd (own a p ga) (own b p gb), s⟩, ownI⟩
  obtain ⟨hi, q1, q2⟩ := gΓ i m d g1 g2
  obtain ⟨v, d', a1, a2, a3⟩ := g0_get h q1
  rw [q2] at a2; cases a2
  refine ⟨v, gσ i v a1, ?_⟩
  rcases a3 with ⟨rfl, r⟩ | ⟨rfl, r⟩ | ⟨q, rfl, e, _, c, r⟩
  · exact r
  · show RdN K mg _ H F v d
    unfold RdN at r ⊢
    split
    · rename_i hc
      rw [if_pos hc] at r
      obtain ⟨q, o, e1, e2, e3, e4⟩ := r
      refine ⟨q, o, e1, e2, e3, ?_⟩
      rcases e4 with e4 | ⟨e4, e5⟩
      · exact .inl e4
      · exact .inr ⟨e4, fun z => e5 (ownI q z)⟩
    · rename_i hc
      rw [if_neg hc] at r
      exact r
  · exact ⟨e, c, r⟩
end
/-- a def by its body: no exception leaves it -/
theorem fn_ok0 {P : Program} {w : World} {K : PySem.W.Frag} {mg : Str → Option Value} {base : Heap} {x qual : Str} {st : Stmt} {f : Addr} {fd : FuncData} {N ps : List Str} {k : Nat} {pms : List PM} {rm : Md} {eb : Es} {As : List Nat} {EX : XW}
    (Fn : Fun K x qual st f fd) (S : FnScope N ps (defScope st)) (hp : pms.length = ps.length) (hN : pms.length ≤ N.length) 
    (hb : ∀ (cdv : Value) (A : Around) (outer : List PySem.Env) (s : Shared) (H : Hp) (vs : List V) (E : XK), Room k (A.deeper (envOfC qual (defScope st) s.heap.objs.size f cdv)) → vs.length = pms.length → (∀ (i : Nat) (v : V), pms[i]? = some PM.io → vs[i]? = some v → ∃ q, v = .ref q) →
      ∃ Γ', (∀ i q, (i, q) ∈ io0 0 pms vs → Γ'[i]? = some (.io q)) ∧
        VSs (cxOf CX0 P w K mg base N qual (defScope st) f cdv A outer s H E).nox (g0 pms vs ++ List.replicate (N.length - pms.length) .fz) Γ' ⟨[], As, io0 0 pms vs, rm⟩ WF (defBody st) eb)
    (hr : rm = .own ∨ rm = .fz) :
    FnOk P w K mg base CX0 (k + 1) f fd ps (spFn K mg pms rm (fun ds => noexn (fnEv pms N.length eb ds)) EX) := by
  refine Fn.ok S (fun vs H Q E h => h.1.trans hp) fun cdv A outer s H vs Q E hroom h => ?_
  obtain ⟨hl, F, ds, sm, pa, nd, q⟩ := h
  have isref : ∀ (i : Nat) (v : V), pms[i]? = some PM.io → vs[i]? = some v → ∃ q, v = .ref q := fun i v h1 h2 => by
    obtain ⟨v', d', k1, k2, k3⟩ := pa.get h1
    rw [h2] at k1; cases k1
    obtain ⟨q, e, _⟩ := k3
    exact ⟨q, e⟩
  obtain ⟨Γ', hΓ, hv⟩ := hb cdv A outer s H vs E hroom hl isref
  refine ⟨_, hv, ds.map some ++ List.replicate (N.length - ds.length) none, F, ?_⟩
  obtain ⟨r0, o0⟩ := rel_start (N := N) sm pa nd hN
  refine ⟨r0, Res.sat_imp (Res.sat_bind.mp (noexn_sat (E' := fun _ => False) q)) (fun fl _ q => ?_) fun _ h => h.elim⟩
  have back : ∀ {ρ' : Env} {σ' : St} {H' F' : Hp} {Γr : Gm} {outs : List D}, Rel K mg Γr ρ' σ' H' F' → (∀ i q, (i, q) ∈ io0 0 pms vs → Γr[i]? = some (.io q)) → outs.length = (ioIx 0 pms).length → (∀ (k i : Nat) (d : D), (ioIx 0 pms)[k]? = some i → outs[k]? = some d → ρ'[i]? = some (some d)) → IoBack K mg (ioAd pms vs) outs H' F' := fun {ρ' σ' H' F' Γr outs} r hi h1 h2 =>
    ⟨by rw [h1]; exact ioIx_length isref hl, fun k p d e1 e2 => by
      obtain ⟨i, g1, g2⟩ := io0_at (n := 0) isref hl e1
      obtain ⟨v, a1, a2, a3, a4⟩ := r.slot i _ d (hi i p g2) (h2 k i d g1 e2)
      subst a2
      exact ⟨a3, a4⟩⟩
  have fe : ∀ {O' : Ft} {H' F' : Hp}, Evo (Own (g0 pms vs ++ List.replicate (N.length - pms.length) .fz) (ds.map some ++ List.replicate (N.length - ds.length) none) (L2.start N vs)) H F O' H' F' → FEvo (ioAd pms vs) H F H' F' := fun e => ⟨e.sf, e.sh, fun p o k1 k2 k3 => e.kp p o k1 k2 fun z => k3 (o0 p z), e.dom⟩
  cases fl with
  | next ρ' =>
    obtain ⟨outs, q, h1, h2⟩ := outs_sat (Res.sat_bind.mp q)
    exact fun σ' H' F' e k r => q .non H' F' (fe e) (back r hΓ h1 h2) (by
      rcases hr with rfl | rfl
      · exact ⟨by unfold Cell; rw [if_neg (show ¬ cellD .non = true from fun h => nomatch h)]; simp only [rep], fun c => by cases c⟩
      · simp only [RetF, rep])
  | brk ρ' => exact q.elim
  | cont ρ' => exact q.elim
  | ret d ρ' =>
    obtain ⟨outs, q, h1, h2⟩ := outs_sat (Res.sat_bind.mp q)
    refine fun v σ' H' F' Γr e r hi rv => q v H' F' (fe e) (back r hi h1 h2) ?_
    rcases hr with rfl | rfl
    · refine ⟨rv.1, fun c p z => ?_⟩
      rcases rv.2 c p z with k1 | ⟨k1, k2⟩
      · exact k1
      · obtain ⟨j, hj⟩ := List.getElem?_of_mem (o0 p k1)
        obtain ⟨i', g1, g2⟩ := io0_at (n := 0) isref hl hj
        exact absurd rfl (k2 i' p g2)
    · exact rv
end VL

set_option Elab.async false
set_option linter.all false
set_option maxRecDepth 100000
/-! VL11: calls of defs; modes given up; slots locked. -/
namespace VL
open PySem PySem.Spec PyProof.Rows L2

def ioSl : List Arg → List Nat
  | .io i :: as => i :: ioSl as
  | _ :: as => ioSl as
  | [] => []
def okA (ios : List Nat) : List PM → List Arg → Bool
  | [], [] => true
  | .fz :: ms, .val _ :: as => okA ios ms as
  | .brw :: ms, .val _ :: as => okA ios ms as
  | .brw :: ms, .bor (.ex _) :: as => okA ios ms as
  | .brw :: ms, .bor (.slot i) :: as => !ios.contains i && okA ios ms as
  | .io :: ms, .io i :: as => ios.contains i && okA ios ms as
  | _, _ => false
def ioCells : List PM → List D → Bool
  | .io :: ms, d :: ds => cellD d && ioCells ms ds
  | _ :: ms, _ :: ds => ioCells ms ds
  | _, _ => true
def setOuts : List Nat → List D → Env → Env
  | i :: is, d :: ds, ρ => (setOuts is ds ρ).set i (some d)
  | _, _, ρ => ρ
def eFn (pms : List PM) (f : Fe) (as : List Arg) : Ev := fun ρ => (Arg.runs as ρ).bind fun p => (Arg.fins as p.1 p.2).bind fun ds => if ioCells pms ds = true then (f ds).bind fun r => .ok (r.1, setOuts (ioSl as) r.2 p.2) else .bad

section
variable {K : PySem.W.Frag} {mg : Str → Option Value} {Γ : Gm} {ρ : Env} {σ : St} {H F H' F' : Hp} {I : List Addr} {ios : List Nat}
theorem setOuts_length : ∀ (is : List Nat) (ds : List D), (setOuts is ds ρ).length = ρ.length
  | [], _ => rfl
  | _ :: _, [] => rfl
  | i :: is, d :: ds => by simp only [setOuts, List.length_set, setOuts_length is ds]
theorem setOuts_out : ∀ {is : List Nat} {ds : List D} {j : Nat}, j ∉ is → (setOuts is ds ρ)[j]? = ρ[j]?
  | [], _, _, _ => rfl
  | _ :: _, [], _, _ => rfl
  | i :: is, d :: ds, j, h => by
    simp only [List.mem_cons, not_or] at h
    simp only [setOuts]
    rw [List.getElem?_set_ne (fun e => h.1 e.symm)]
    exact setOuts_out h.2
theorem setOuts_in : ∀ {is : List Nat} {ds : List D} {j : Nat}, j ∈ is → ds.length = is.length → j < ρ.length → ∃ (k : Nat) (d : D), is[k]? = some j ∧ ds[k]? = some d ∧ (setOuts is ds ρ)[j]? = some (some d)
  | [], _, _, h, _, _ => by cases h
  | i :: is, [], _, _, h, _ => by simp at h
  | i :: is, d :: ds, j, h, hl, hj => by
    simp only [setOuts]
    by_cases e : i = j
    · subst e
      exact ⟨0, d, rfl, rfl, by rw [getset (by rw [setOuts_length]; exact hj)]⟩
    · rcases List.mem_cons.mp h with z | z
      · exact absurd z.symm e
      · obtain ⟨k, d', k1, k2, k3⟩ := setOuts_in (ds := ds) z (by simpa using hl) hj
        exact ⟨k + 1, d', by simpa using k1, by simpa using k2, by rw [List.getElem?_set_ne e]; exact k3⟩
/-- what an argument hands over -/
theorem args_io (r : Rel K mg Γ ρ σ H F) (hm : ∀ i ∈ ios, ∃ m, Γ[i]? = some m ∧ m.mut = true) : ∀ {ms : List PM} {as : List Arg} {vs : List V} {ds : List D} {ods : List (Option D)},
    okA ios ms as = true → AFs K mg as (Own Γ ρ σ) σ H F vs ds → Arg.fins as ods ρ = .ok ds → ioCells ms ds = true →
    vs.length = ms.length ∧ (ioAd ms vs).length = (ioSl as).length ∧ (∀ (k i : Nat), (ioSl as)[k]? = some i → i ∈ ios ∧ ∃ p, (ioAd ms vs)[k]? = some p ∧ OwnAt Γ ρ σ i p)
  | [], [], _, _, _, _, ⟨h1, h2⟩, _, _ => by subst h1 h2; exact ⟨rfl, rfl, fun k i h => by simp [ioSl] at h⟩
  | [], _ :: _, _, _, _, h, _, _, _ => by simp [okA] at h
  | m :: ms, [], _, _, _, h, _, _, _ => by cases m <;> simp [okA] at h
  | m :: ms, a :: as, _, _, ods, h, ⟨v, w, d, e, h1, h2, h3, h4⟩, hf, hc => by
    subst h1 h2
    cases ods with
    | nil => simp [Arg.fins] at hf
    | cons od ods =>
    unfold Arg.fins at hf
    cases k1 : a.fin od ρ with
    | exn x => exact (Arg.fin_exn k1).elim
    | bad => rw [k1] at hf; cases hf
    | ok d0 =>
    rw [k1] at hf
    cases k2 : Arg.fins as ods ρ with
    | exn x => exact (Arg.fins_exn k2).elim
    | bad => simp only [Res.bind_ok, k2, Res.bind_bad] at hf; cases hf
    | ok es =>
    simp only [Res.bind_ok, k2] at hf
    cases hf
    have pass : ∀ (_ : okA ios ms as = true) (_ : ioCells ms e = true), _ := fun h hc => args_io r hm h h4 k2 hc
    cases m with
    | fz =>
      cases a <;> simp only [okA] at h <;> first | (cases h; done) | skip
      obtain ⟨q1, q2, q3⟩ := pass h (by simpa [ioCells] using hc)
      exact ⟨by simp [q1], by simpa [ioAd, ioSl] using q2, fun k i hk => by simpa [ioAd] using q3 k i (by simpa [ioSl] using hk)⟩
    | brw =>
      cases a with
      | val f =>
        simp only [okA] at h
        obtain ⟨q1, q2, q3⟩ := pass h (by simpa [ioCells] using hc)
        exact ⟨by simp [q1], by simpa [ioAd, ioSl] using q2, fun k i hk => by simpa [ioAd] using q3 k i (by simpa [ioSl] using hk)⟩
      | io i => simp [okA] at h
      | bor o =>
        cases o with
        | ex f =>
          simp only [okA] at h
          obtain ⟨q1, q2, q3⟩ := pass h (by simpa [ioCells] using hc)
          exact ⟨by simp [q1], by simpa [ioAd, ioSl] using q2, fun k i hk => by simpa [ioAd] using q3 k i (by simpa [ioSl] using hk)⟩
        | slot i =>
          simp only [okA, Bool.and_eq_true] at h
          obtain ⟨q1, q2, q3⟩ := pass h.2 (by simpa [ioCells] using hc)
          exact ⟨by simp [q1], by simpa [ioAd, ioSl] using q2, fun k i hk => by simpa [ioAd] using q3 k i (by simpa [ioSl] using hk)⟩
    | io =>
      cases a <;> simp only [okA, Bool.and_eq_true] at h <;> first | (cases h; done) | skip
      rename_i i
      simp only [ioCells, Bool.and_eq_true] at hc
      obtain ⟨q1, q2, q3⟩ := pass h.2 hc.2
      have hi : i ∈ ios := by simpa using h.1
      obtain ⟨md, m1, m2⟩ := hm i hi
      have hd := gv_ok (show gv ρ i = .ok d from k1)
      obtain ⟨p, o, s1, s2, s3, s4⟩ := r.ownAt m1 m2 hd hc.1
      have h3 : Rdd K mg H F v d ∧ σ[i]? = some (some v) := h3
      have e := h3.2
      rw [s1] at e; cases e
      refine ⟨by simp [q1], by simp [ioAd, ioSl, q2], fun k j hk => ?_⟩
      simp only [ioSl] at hk
      cases k with
      | zero => simp at hk; subst hk; exact ⟨hi, p, by simp [ioAd], md, d, m1, m2, hd, hc.1, s1⟩
      | succ k =>
        obtain ⟨a1, q, a2, a3⟩ := q3 k j (by simpa using hk)
        exact ⟨a1, q, by simpa [ioAd] using a2, a3⟩
theorem args_ok (r : Rel K mg Γ ρ σ H F) (hm : ∀ i ∈ ios, ∃ m, Γ[i]? = some m ∧ m.mut = true) (hI : ∀ p ∈ I, ∃ i ∈ ios, OwnAt Γ ρ σ i p) : ∀ {ms : List PM} {as : List Arg} {vs : List V} {ds : List D} {ods : List (Option D)},
    okA ios ms as = true → AFs K mg as (Own Γ ρ σ) σ H F vs ds → Arg.fins as ods ρ = .ok ds → ioCells ms ds = true → (∀ p ∈ ioAd ms vs, p ∈ I) → PArgs K mg I H F ms vs ds
  | [], [], _, _, _, _, ⟨h1, h2⟩, _, _, _ => ⟨h1, h2⟩
  | [], _ :: _, _, _, _, h, _, _, _, _ => by simp [okA] at h
  | m :: ms, [], _, _, _, h, _, _, _, _ => by cases m <;> simp [okA] at h
  | m :: ms, a :: as, _, _, ods, h, ⟨v, w, d, e, h1, h2, h3, h4⟩, hf, hc, hs => by
    subst h1 h2
    cases ods with
    | nil => simp [Arg.fins] at hf
    | cons od ods =>
    unfold Arg.fins at hf
    cases k1 : a.fin od ρ with
    | exn x => exact (Arg.fin_exn k1).elim
    | bad => rw [k1] at hf; cases hf
    | ok d0 =>
    rw [k1] at hf
    cases k2 : Arg.fins as ods ρ with
    | exn x => exact (Arg.fins_exn k2).elim
    | bad => simp only [Res.bind_ok, k2, Res.bind_bad] at hf; cases hf
    | ok es =>
    simp only [Res.bind_ok, k2] at hf
    cases hf
    have rdI : ∀ {v : V} {d : D}, RdN K mg (Own Γ ρ σ) H F v d → RdN K mg (InL I) H F v d := fun {v d} q => by
      unfold RdN at q ⊢
      split
      · rename_i hc
        rw [if_pos hc] at q
        obtain ⟨p, o, e1, e2, e3, e4⟩ := q
        refine ⟨p, o, e1, e2, e3, ?_⟩
        rcases e4 with e4 | ⟨e4, e5⟩
        · exact .inl e4
        · refine .inr ⟨e4, fun z => ?_⟩
          obtain ⟨i, _, hi⟩ := hI p z
          exact e5 ⟨i, hi⟩
      · rename_i hc
        rw [if_neg hc] at q
        exact q
    have pass : ∀ (_ : okA ios ms as = true) (_ : ioCells ms e = true) (_ : ∀ p ∈ ioAd ms w, p ∈ I), PArgs K mg I H F ms w e := fun h hc hs => args_ok r hm hI h h4 k2 hc hs
    cases m with
    | fz =>
      cases a <;> simp only [okA] at h <;> first | (cases h; done) | skip
      exact ⟨v, w, d, e, rfl, rfl, h3, pass h (by simpa [ioCells] using hc) (fun p hp => hs p (by simpa [ioAd] using hp))⟩
    | brw =>
      cases a with
      | val f =>
        simp only [okA] at h
        exact ⟨v, w, d, e, rfl, rfl, rep.rdN r.sub h3, pass h (by simpa [ioCells] using hc) (fun p hp => hs p (by simpa [ioAd] using hp))⟩
      | io i => simp [okA] at h
      | bor o =>
        cases o with
        | ex f =>
          simp only [okA] at h
          exact ⟨v, w, d, e, rfl, rfl, rdI h3, pass h (by simpa [ioCells] using hc) (fun p hp => hs p (by simpa [ioAd] using hp))⟩
        | slot i =>
          simp only [okA, Bool.and_eq_true] at h
          have ni : i ∉ ios := by simpa using h.1
          have hd := gv_ok (show gv ρ i = .ok d from k1)
          obtain ⟨md, m1⟩ := r.gm hd
          obtain ⟨u, s1, s2⟩ := r.slot i md d m1 hd
          have h3 : Rdd K mg H F v d ∧ σ[i]? = some (some v) := h3
          have ee := h3.2
          rw [s1] at ee; cases ee
          refine ⟨_, w, d, e, rfl, rfl, ?_, pass h.2 (by simpa [ioCells] using hc) (fun p hp => hs p (by simpa [ioAd] using hp))⟩
          have cell : md.mut = true → Cell K mg H F v d → RdN K mg (InL I) H F v d := fun mu c => c.rdN fun p ev hc z => by
            obtain ⟨j, hj, oj⟩ := hI p z
            have := r.inj i j p ⟨md, d, m1, mu, hd, hc, by rw [s1, ev]⟩ oj
            subst this
            exact ni hj
          cases md with
          | fz => exact rep.rdN r.sub s2
          | xc a c x =>
            obtain ⟨g1, c, fs, g2, g3⟩ := s2
            subst g2
            show RdN K mg (InL I) H F _ _
            unfold RdN
            rw [if_neg (show ¬ cellD (.exc c fs) = true from fun h => nomatch h)]
            simp only [rep]
            exact ⟨_, g1⟩
          | own => exact cell rfl s2
          | io q => exact cell rfl s2.2.2
          | brw => exact rdI s2
    | io =>
      cases a <;> simp only [okA, Bool.and_eq_true] at h <;> first | (cases h; done) | skip
      rename_i i
      simp only [ioCells, Bool.and_eq_true] at hc
      have hi : i ∈ ios := by simpa using h.1
      obtain ⟨md, m1, m2⟩ := hm i hi
      have hd := gv_ok (show gv ρ i = .ok d from k1)
      obtain ⟨p, o, s1, s2, s3, s4⟩ := r.ownAt m1 m2 hd hc.1
      have h3 : Rdd K mg H F v d ∧ σ[i]? = some (some v) := h3
      have ee := h3.2
      rw [s1] at ee; cases ee
      refine ⟨_, w, d, e, rfl, rfl, ⟨p, rfl, hs p (by simp [ioAd]), hc.1, ?_⟩, pass h.2 hc.2 (fun q hq => hs q (by simp only [ioAd, List.mem_cons]; exact .inr hq))⟩
      unfold Cell
      rw [if_pos hc.1]
      exact ⟨p, o, rfl, s2, s3, s4⟩
/-- behind a call -/
theorem after_call {is : List Nat} {ad : List Addr} {outs : List D} (r : Rel K mg Γ ρ σ H F) (fe : FEvo ad H F H' F') (bk : IoBack K mg ad outs H' F') (hl : ad.length = is.length)
    (ho : ∀ (k i : Nat), is[k]? = some i → ∃ p, ad[k]? = some p ∧ OwnAt Γ ρ σ i p) :
    Rel K mg Γ (setOuts is outs ρ) σ H' F' ∧ Own Γ (setOuts is outs ρ) σ = Own Γ ρ σ ∧ Evo (Own Γ ρ σ) H F (Own Γ ρ σ) H' F' := by
  have lo : outs.length = is.length := bk.1.trans hl
  have inI : ∀ {i : Nat} {p : Addr}, i ∈ is → OwnAt Γ ρ σ i p → ∃ k, is[k]? = some i ∧ ad[k]? = some p := fun {i p} hi hp => by
    obtain ⟨k, hk⟩ := List.getElem?_of_mem hi
    obtain ⟨q, h1, h2⟩ := ho k i hk
    obtain ⟨_, _, _, _, _, _, e1⟩ := hp
    obtain ⟨_, _, _, _, _, _, e2⟩ := h2
    rw [e1] at e2; cases e2
    exact ⟨k, hk, h1⟩
  have adO : ∀ p ∈ ad, ∃ i ∈ is, OwnAt Γ ρ σ i p := fun p hp => by
    obtain ⟨k, hk⟩ := List.getElem?_of_mem hp
    have hk' : k < is.length := by
      rw [← hl]
      rcases Nat.lt_or_ge k ad.length with q | q
      · exact q
      · rw [List.getElem?_eq_none q] at hk; cases hk
    obtain ⟨q, h1, h2⟩ := ho k _ (List.getElem?_eq_getElem hk')
    rw [hk] at h1; cases h1
    exact ⟨_, List.getElem_mem hk', h2⟩
  have isL : ∀ {j : Nat}, j ∈ is → j < ρ.length := fun {j} hj => by
    obtain ⟨k, hk⟩ := List.getElem?_of_mem hj
    obtain ⟨p, _, m, d, _, _, h, _⟩ := ho k j hk
    rcases Nat.lt_or_ge j ρ.length with q | q
    · exact q
    · rw [List.getElem?_eq_none q] at h; cases h
  have isO : ∀ {j : Nat}, j ∈ is → ∃ p, OwnAt Γ ρ σ j p := fun {j} hj => by
    obtain ⟨k, hk⟩ := List.getElem?_of_mem hj
    obtain ⟨p, _, h⟩ := ho k j hk
    exact ⟨p, h⟩
  have own : ∀ {j : Nat} {p : Addr}, OwnAt Γ (setOuts is outs ρ) σ j p ↔ OwnAt Γ ρ σ j p := fun {j p} => by
    by_cases hj : j ∈ is
    · obtain ⟨k, d, k1, k2, k3⟩ := setOuts_in (ρ := ρ) hj lo (isL hj)
      obtain ⟨q, hq1, hq⟩ := ho k j k1
      obtain ⟨c1, c2⟩ := bk.2 k q d hq1 k2
      obtain ⟨m, d0, a1, a2, a3, a4, a5⟩ := hq
      constructor
      · rintro ⟨m', d', b1, b2, b3, b4, b5⟩
        exact ⟨m, d0, a1, a2, a3, a4, b5⟩
      · rintro ⟨m', d', b1, b2, b3, b4, b5⟩
        exact ⟨m, d, a1, a2, k3, c1, b5⟩
    · constructor
      · rintro ⟨m', d', b1, b2, b3, b4, b5⟩
        rw [setOuts_out hj] at b3
        exact ⟨m', d', b1, b2, b3, b4, b5⟩
      · rintro ⟨m', d', b1, b2, b3, b4, b5⟩
        exact ⟨m', d', b1, b2, by rw [setOuts_out hj]; exact b3, b4, b5⟩
  have brw : ∀ {j : Nat} {p : Addr}, BrwAt Γ (setOuts is outs ρ) σ j p ↔ BrwAt Γ ρ σ j p := fun {j p} => by
    have nj : Γ[j]? = some .brw → j ∉ is := fun h hj => by
      obtain ⟨p, m, d, a1, a2, _⟩ := isO hj
      rw [h] at a1; cases a1; cases a2
    constructor
    · rintro ⟨d', b1, b3, b4, b5⟩
      rw [setOuts_out (nj b1)] at b3
      exact ⟨d', b1, b3, b4, b5⟩
    · rintro ⟨d', b1, b3, b4, b5⟩
      exact ⟨d', b1, by rw [setOuts_out (nj b1)]; exact b3, b4, b5⟩
  have eo : Own Γ (setOuts is outs ρ) σ = Own Γ ρ σ := by
    unfold Own
    congr 1
    · funext p; exact propext ⟨fun ⟨j, h⟩ => ⟨j, own.mp h⟩, fun ⟨j, h⟩ => ⟨j, own.mpr h⟩⟩
    · funext j p; exact propext brw
  have ev : Evo (Own Γ ρ σ) H F (Own Γ ρ σ) H' F' := ⟨fe.sf, fe.sh, fun p o h1 h2 h3 => fe.kp p o h1 h2 fun z => by
    obtain ⟨i, _, hi⟩ := adO p z
    exact h3 ⟨i, hi⟩, fe.dom, fun p h => .inl h, fun _ _ h => h⟩
  refine ⟨⟨by rw [setOuts_length]; exact r.lr, r.lg, fun j m d g1 g2 => ?_, fun a b p ga gb => r.inj a b p (own.mp ga) (own.mp gb), fe.sh⟩, eo, ev⟩
  rw [eo]
  by_cases hj : j ∈ is
  · obtain ⟨k, d', k1, k2, k3⟩ := setOuts_in (ρ := ρ) hj lo (isL hj)
    rw [k3] at g2; cases g2
    obtain ⟨q, hq1, m0, d0, a1, a2, a3, a4, a5⟩ := ho k j k1
    obtain ⟨c1, c2⟩ := bk.2 k q d hq1 k2
    rw [g1] at a1; cases a1
    refine ⟨_, a5, ?_⟩
    cases m with
    | own => exact c2
    | io q' =>
      obtain ⟨v, s1, s2⟩ := r.slot j _ d0 g1 a3
      rw [a5] at s1; cases s1
      exact ⟨s2.1, c1, c2⟩
    | fz => cases a2
    | brw => cases a2
    | xc a c x => cases a2
  · rw [setOuts_out hj] at g2
    obtain ⟨v, s1, s2⟩ := r.slot j m d g1 g2
    refine ⟨v, s1, ?_⟩
    have cell : m.mut = true → Cell K mg H F v d → Cell K mg H' F' v d := fun mu c => by
      unfold Cell at c ⊢
      split
      · rename_i hc
        rw [if_pos hc] at c
        obtain ⟨p, o, e1, e2, e3, e4⟩ := c
        subst e1
        obtain ⟨f1, f2⟩ := fe.kp p o e2 e4 fun z => by
          obtain ⟨i, hi, oi⟩ := adO p z
          have := r.inj j i p ⟨m, d, g1, mu, g2, hc, s1⟩ oi
          subst this
          exact hj hi
        exact ⟨p, o, rfl, f1, cont_mono fe.sf e3, f2⟩
      · rename_i hc
        rw [if_neg hc] at c
        exact rep_mono fe.sf c
    cases m with
    | fz => exact rep_mono fe.sf s2
    | xc a c x => exact xc_mono fe.sf s2
    | own => exact cell rfl s2
    | io q => exact ⟨s2.1, s2.2.1, cell rfl s2.2.2⟩
    | brw =>
      have s2 : RdN K mg (Own Γ ρ σ) H F v d := s2
      exact s2.evo ev
end
section
variable {X : Cx} {Γ Γ' Γ1 Γ2 Γ3 : Gm} {S : SC} {W : WE} {e : Expr} {es : List Expr} {p pos : Pos} {m rm : Md} {ev : Ev} {as : List Arg} {k : Nat} {f : Addr} {fd : FuncData} {ps : List Str} {x : Str} {pms : List PM} {fe : Fe} {CX : CXT} {EX : XW} {E : XK}
/-- a call of a def -/
theorem call_fn_tr (hok : okA (ioSl as) pms as = true) (hnd : (ioSl as).Nodup) (hm : ∀ i ∈ ioSl as, ∃ m, Γ'[i]? = some m ∧ m.mut = true)
    {σ : St} (hE : ∀ y H F ρ, (∀ H' F' O', Evo (Own Γ' ρ σ) H F O' H' F' → W y σ H' F') → ∀ ad H' F', Evo (Own Γ' ρ σ) H F (Own Γ' ρ σ) H' F' → FEvo ad H F H' F' → EX y H' F' E) {H : Hp} {Q : VK} (h : trE X Γ Γ' W rm (eFn pms fe as) σ H Q) (hrm : rm = .own ∨ rm = .fz) :
    trA X Γ Γ' W as σ H fun vs H1 => spFn X.K X.mg pms rm fe EX vs H1 Q E := by
  obtain ⟨ρ, F, r, q⟩ := h
  refine ⟨ρ, F, r, Res.sat_imp (Res.sat_bind.mp q) (fun z _ q vs H1 F1 e1 r1 b1 => ?_) fun _ h => h⟩
  obtain ⟨ds, hds, q⟩ := fins_sat q
  by_cases hc : ioCells pms ds = true
  · rw [if_pos hc] at q
    have af := b1.fin r1 hds
    obtain ⟨l1, l2, l3⟩ := args_io r1 hm hok af hds hc
    have l3' : ∀ (k i : Nat), (ioSl as)[k]? = some i → ∃ p, (ioAd pms vs)[k]? = some p ∧ OwnAt Γ' z.2 σ i p := fun k i h => (l3 k i h).2
    have adO : ∀ p ∈ ioAd pms vs, ∃ i ∈ ioSl as, OwnAt Γ' z.2 σ i p := fun p hp => by
      obtain ⟨k, hk⟩ := List.getElem?_of_mem hp
      have hk' : k < (ioSl as).length := by
        rw [← l2]
        rcases Nat.lt_or_ge k (ioAd pms vs).length with q | q
        · exact q
        · rw [List.getElem?_eq_none q] at hk; cases hk
      obtain ⟨q, h1, h2⟩ := l3' k _ (List.getElem?_eq_getElem hk')
      rw [hk] at h1; cases h1
      exact ⟨_, List.getElem_mem hk', h2⟩
    have nd : (ioAd pms vs).Nodup := by
      refine List.pairwise_iff_getElem.mpr fun i j hi hj hij e => ?_
      have a1 : i < (ioSl as).length := by omega
      have a2 : j < (ioSl as).length := by omega
      obtain ⟨p, h1, h2⟩ := l3' i _ (List.getElem?_eq_getElem a1)
      obtain ⟨q, h3, h4⟩ := l3' j _ (List.getElem?_eq_getElem a2)
      rw [List.getElem?_eq_getElem hi] at h1
      rw [List.getElem?_eq_getElem hj] at h3
      cases h1; cases h3
      rw [e] at h2
      exact (List.pairwise_iff_getElem.mp hnd) i j a1 a2 hij (r1.inj _ _ _ h2 h4)
    refine ⟨l1, F1, ds, r1.sub, args_ok r1 hm adO hok af hds hc fun _ h => h, nd, Res.sat_imp (Res.sat_bind.mp q) (fun w _ q v H' F' fe bk rv => ?_) fun y hy H' F' fv => ?_⟩
    · obtain ⟨r2, o2, e2⟩ := after_call r1 fe bk l2 l3'
      refine q v H' F' (by rw [o2]; exact e1.trans e2) r2 ?_
      rcases hrm with rfl | rfl
      · refine ⟨rv.1, fun c p z => ?_⟩
        have n1 := rv.2 c p z
        refine ⟨e1.dom p n1, fun h => ?_⟩
        rw [o2] at h
        obtain ⟨o, ho, _⟩ := Own.there r1 h
        rw [n1] at ho; cases ho
      · exact rv
    · refine hE y H1 F1 z.2 (fun H2 F2 O2 e2 => hy H2 F2 O2 (e1.trans e2)) (ioAd pms vs) H' F' ?_ fv
      exact ⟨fv.sf, fv.sh, fun p o h1 h2 h3 => fv.kp p o h1 h2 fun z => by
        obtain ⟨i, _, hi⟩ := adO p z
        exact h3 ⟨i, hi⟩, fv.dom, fun p h => .inl h, fun _ _ h => h⟩
  · rw [if_neg hc] at q; exact q.elim
theorem ve_call (G : FnOk X.prog X.w X.K X.mg X.base CX k f fd ps (spFn X.K X.mg pms rm fe EX)) (hr : Room k X.A) (hg : Gl X x) (hmg : X.mg x = some (.ref f)) (hk : PySem.W.keepIn X.K (.ref f) = true) (hb : Binds X.K fd ps []) (hx : Passes CX X E)
    (hE : ∀ y σ H F ρ, (∀ H' F' O', Evo (Own Γ' ρ σ) H F O' H' F' → W y σ H' F') → ∀ ad H' F', Evo (Own Γ' ρ σ) H F (Own Γ' ρ σ) H' F' → FEvo ad H F H' F' → EX y H' F' E)
    (hrm : rm = .own ∨ rm = .fz) (ha : VA X Γ Γ' W (e :: es) as) (hok : okA (ioSl as) pms as = true) (hnd : (ioSl as).Nodup) (hm : ∀ i ∈ ioSl as, ∃ m, Γ'[i]? = some m ∧ m.mut = true)
    (hp : ∀ {t : TA}, PA X (e :: es) t → PE X (.Call (.Name x p) (e :: es) [] pos) (tCall (spFn X.K X.mg pms rm fe EX) [] E t)) :
    VE X Γ Γ' W (.Call (.Name x p) (e :: es) [] pos) rm (eFn pms fe as) :=
  peImp (hp ha) fun σ H Q h => trA_mono (call_fn_tr hok hnd hm (fun y H F ρ => hE y σ H F ρ) h hrm) fun vs H1 q => by rw [List.append_nil]; exact q
end
end VL

set_option Elab.async false
set_option linter.all false
set_option maxRecDepth 100000
/-! VL12: more built-ins; modes given up; short forms for the printed derivations. -/
namespace VL
open PySem PySem.Spec PyProof.Rows L2

abbrev EX0 : XW := fun _ _ _ _ => True
def mutAll (Γ : Gm) (is : List Nat) : Bool := is.all fun i => match Γ[i]? with
  | some m => m.mut
  | none => false
theorem mutAll_ok {Γ : Gm} {is : List Nat} (h : mutAll Γ is = true) : ∀ i ∈ is, ∃ m, Γ[i]? = some m ∧ m.mut = true := fun i hi => by
  have := List.all_eq_true.mp h i hi
  cases e : Γ[i]? with
  | none => rw [e] at this; cases this
  | some m => rw [e] at this; exact ⟨m, rfl, this⟩
section
variable {X : Cx} {Γ Γ' Γ1 Γ2 Γ3 : Gm} {S : SC} {W : WE} {st : Stmt} {sts : List Stmt} {e o a b c : Expr} {es : List Expr} {p pos apos cpos : Pos} {m rm : Md} {ev : Ev} {et : Et} {eb : Es} {as : List Arg} {x : Str} {pms : List PM} {fe : Fe} {ar : Arg}
/-- a call of a def that lets no exception out -/
theorem ve_call0 (hrm : rm = .own ∨ rm = .fz) (ha : VA X Γ Γ' W (e :: es) as) (hok : okA (ioSl as) pms as = true) (hnd : (ioSl as).Nodup) (hm : mutAll Γ' (ioSl as) = true)
    (hp : ∀ {t : TA}, PA X (e :: es) t → PE X (.Call (.Name x p) (e :: es) [] pos) (tCall (spFn X.K X.mg pms rm fe EX0) [] E0 t)) :
    VE X Γ Γ' W (.Call (.Name x p) (e :: es) [] pos) rm (eFn pms fe as) :=
  peImp (hp ha) fun σ H Q h => trA_mono (call_fn_tr hok hnd (mutAll_ok hm) (fun _ _ _ _ _ _ _ _ _ _ => trivial) h hrm) fun vs H1 q => by rw [List.append_nil]; exact q
def eFn0 (fe : Fe) : Ev := fun ρ => (fe []).bind fun r => .ok (r.1, ρ)
theorem ve_call00 (hrm : rm = .own ∨ rm = .fz) (hp : PE X (.Call (.Name x p) [] [] pos) (tCall (spFn X.K X.mg [] rm fe EX0) [] E0 tNil)) : VE X Γ Γ W (.Call (.Name x p) [] [] pos) rm (eFn0 fe) :=
  peImp hp fun σ H Q ⟨ρ, F, r, q⟩ => by
    have key : trE X Γ Γ W rm (eFn [] fe []) σ H Q := ⟨ρ, F, r, q⟩
    have h := call_fn_tr (as := []) (pms := []) (fe := fe) (EX := EX0) (E := E0) rfl List.nodup_nil (fun _ h => by cases h) (fun _ _ _ _ _ _ _ _ _ _ => trivial) key hrm
    obtain ⟨ρ2, F2, r2, q2⟩ := h
    exact q2 [] H F2 (Evo.refl r2.sub) r2 ⟨rfl, rfl⟩
/-! ### a slot's object given up for good -/
theorem Rel.giveUp {K : PySem.W.Frag} {mg : Str → Option Value} {ρ : Env} {σ : St} {H F : Hp} {i : Nat} (r : Rel K mg Γ ρ σ H F) (hm : Γ[i]? = some .own) :
    ∃ F', Rel K mg (Γ.set i .fz) ρ σ H F' ∧ Evo (Own Γ ρ σ) H F (Own (Γ.set i .fz) ρ σ) H F' := by
  rcases h : ρ[i]? with _ | _ | d
  · exact ⟨F, ⟨r.lr, by rw [List.length_set]; exact r.lg, fun j m' d g1 g2 => by
      rcases set_get g1 with ⟨e, _, _⟩ | ⟨e, g1⟩
      · subst e; rw [h] at g2; cases g2
      · obtain ⟨v, k1, k2⟩ := r.slot j m' d g1 g2
        refine ⟨v, k1, ?_⟩
        cases m' with
        | brw => exact RdN.evo k2 ((Evo.refl r.sub).mono (fun _ z => z) (fun p z => .inl (Own.of_set rfl z)) fun _ _ z => z.of_set (by intro e; cases e))
        | _ => exact k2, fun a b q g1 g2 => r.inj a b q (g1.of_set rfl).1 (g2.of_set rfl).1, r.sub⟩,
      (Evo.refl r.sub).mono (fun _ z => z) (fun p z => .inl (Own.of_set rfl z)) fun _ _ z => z.of_set (by intro e; cases e)⟩
  · exact ⟨F, ⟨r.lr, by rw [List.length_set]; exact r.lg, fun j m' d g1 g2 => by
      rcases set_get g1 with ⟨e, _, _⟩ | ⟨e, g1⟩
      · subst e; rw [h] at g2; cases g2
      · obtain ⟨v, k1, k2⟩ := r.slot j m' d g1 g2
        refine ⟨v, k1, ?_⟩
        cases m' with
        | brw => exact RdN.evo k2 ((Evo.refl r.sub).mono (fun _ z => z) (fun p z => .inl (Own.of_set rfl z)) fun _ _ z => z.of_set (by intro e; cases e))
        | _ => exact k2, fun a b q g1 g2 => r.inj a b q (g1.of_set rfl).1 (g2.of_set rfl).1, r.sub⟩,
      (Evo.refl r.sub).mono (fun _ z => z) (fun p z => .inl (Own.of_set rfl z)) fun _ _ z => z.of_set (by intro e; cases e)⟩
  · obtain ⟨v, F', _, _, h3, h4⟩ := r.frzAt hm h
    exact ⟨F', h3, h4⟩
/-- .. ahead of a statement -/
theorem vs_pre {i : Nat} (hm : Γ[i]? = some .own) (h : VS X (Γ.set i .fz) Γ' S W st eb) : VS X Γ Γ' S W st eb :=
  psImp h fun D σ H ⟨ρ, F, r, q⟩ => by
    obtain ⟨F', r2, e2⟩ := r.giveUp hm
    exact ⟨ρ, F', r2, Res.sat_imp q (fun fl _ q => q.evo e2 Keep.refl) fun _ h => h.evo e2 Keep.refl⟩
theorem vss_pre {i : Nat} (hm : Γ[i]? = some .own) (h : VSs X (Γ.set i .fz) Γ' S W sts eb) : VSs X Γ Γ' S W sts eb :=
  pssImp h fun D σ H ⟨ρ, F, r, q⟩ => by
    obtain ⟨F', r2, e2⟩ := r.giveUp hm
    exact ⟨ρ, F', r2, Res.sat_imp q (fun fl _ q => q.evo e2 Keep.refl) fun _ h => h.evo e2 Keep.refl⟩
/-- .. behind a block -/
theorem vss_post {i : Nat} (h : VSs X Γ Γ' S W sts eb) (hm : Γ'[i]? = some .own) : VSs X Γ (Γ'.set i .fz) S W sts eb :=
  pssImp h fun D σ H ⟨ρ, F, r, q⟩ => ⟨ρ, F, r, Res.sat_imp q (fun fl _ q => by
    cases fl with
    | next ρ' =>
      intro σ' H' F' ee k r1
      obtain ⟨F2, r2, e2⟩ := r1.giveUp hm
      exact q σ' H' F2 (ee.trans e2) k r2
    | brk ρ' => exact q
    | cont ρ' => exact q
    | ret d ρ' => exact q) fun _ h => h⟩
/-! ### join -/
def strsOf : List D → Option (List (List Nat))
  | [] => some []
  | .str l :: r => (strsOf r).map (l :: ·)
  | _ :: _ => none
theorem strsOf_ok : ∀ {l : List D} {ns : List (List Nat)}, strsOf l = some ns → l = ns.map D.str
  | [], _, h => by cases h; rfl
  | d :: r, ns, h => by
    cases d <;> simp only [strsOf] at h <;> first | (cases h; done) | skip
    cases hr : strsOf r with
    | none => rw [hr] at h; cases h
    | some k => rw [hr] at h; cases h; rw [strsOf_ok hr]; rfl
@[simp] theorem strsOf_map (ns : List (List Nat)) : strsOf (ns.map D.str) = some ns := by
  induction ns with
  | nil => rfl
  | cons n ns ih => simp only [List.map_cons, strsOf, ih, Option.map_some]
theorem reps_strs {K : PySem.W.Frag} {mg : Str → Option Value} {F : Hp} : ∀ {ns : List (List Nat)} {vs : List V}, reps K mg F (ns.map D.str) vs → vs = ns.map fun l => V.str ⟨l.toArray⟩
  | [], _, h => by simpa only [reps, List.map_nil] using h
  | n :: ns, _, h => by
    simp only [List.map_cons, reps] at h
    obtain ⟨v, r, rfl, h1, h2⟩ := h
    simp only [rep] at h1
    subst h1
    rw [reps_strs h2, List.map_cons]
def fJoin (sep : List Nat) : List D → Option D
  | [.lst l] => (strsOf l).bind fun ns => if (ns.map List.length).sum + ns.length * sep.length ≤ 16777216 then some (.str (TL.joinL sep ns)) else none
  | [.tup l] => (strsOf l).bind fun ns => if (ns.map List.length).sum + ns.length * sep.length ≤ 16777216 then some (.str (TL.joinL sep ns)) else none
  | _ => none
theorem ve_join {sep : List Nat} {z : Str} (hz : z = ⟨sep.toArray⟩) {j : Nat} {cp : Pos} (ha : VA X Γ Γ' W (e :: es) as)
    (hp : ∀ {t : TA}, PA X (e :: es) t → PE X (.Call (.Attribute (.Constant (.str z) j cp) "join" apos) (e :: es) [] cpos) (tBM X.K "str" (fun x xs H Q => ∃ a p, ∃ ys : List Str, x = .str a ∧ xs = [.ref p] ∧ (SqL X.K H p (ys.map V.str) ∨ SqT X.K H p (ys.map V.str)) ∧
    (ys.map (·.length)).sum + ys.length * a.length ≤ 16777216 ∧ Q (.str (Txt.join a ys)) H) (tC (.str z)) t)) :
    VE X Γ Γ' W (.Call (.Attribute (.Constant (.str z) j cp) "join" apos) (e :: es) [] cpos) .fz (eCall (fJoin sep) as) :=
  peImp (hp ha) fun σ H Q h => by
    refine ⟨rfl, call_tr (r := fun xs H Q => ∃ a p, ∃ ys : List Str, V.str z = .str a ∧ xs = [.ref p] ∧ (SqL X.K H p (ys.map V.str) ∨ SqT X.K H p (ys.map V.str)) ∧
      (ys.map (·.length)).sum + ys.length * a.length ≤ 16777216 ∧ Q (.str (Txt.join a ys)) H) (fun H F vs ds d Q s r hf q => ?_) h⟩
    subst hz
    have fin : ∀ ns : List (List Nat), (ns.map List.length).sum + ns.length * sep.length ≤ 16777216 → ((ns.map fun l : List Nat => (⟨l.toArray⟩ : Str)).map (·.length)).sum + (ns.map fun l : List Nat => (⟨l.toArray⟩ : Str)).length * (⟨sep.toArray⟩ : Str).length ≤ 16777216 ∧ Txt.join ⟨sep.toArray⟩ (ns.map fun l : List Nat => (⟨l.toArray⟩ : Str)) = ⟨(TL.joinL sep ns).toArray⟩ := fun ns h => by
      refine ⟨?_, ?_⟩
      · rw [List.map_map, List.length_map]
        have : ((fun x : Str => x.length) ∘ fun l : List Nat => (⟨l.toArray⟩ : Str)) = List.length := by funext l; simp [Str.length]
        rw [this]
        simpa [Str.length] using h
      · rw [TL.join_eq]
        have h1 := TL.tl_join ⟨sep.toArray⟩ (ns.map fun l : List Nat => (⟨l.toArray⟩ : Str))
        rw [List.map_map] at h1
        have : (TL.tl ∘ fun l : List Nat => (⟨l.toArray⟩ : Str)) = id := by funext l; rfl
        rw [this, List.map_id] at h1
        have h2 : ∀ y : Str, y = ⟨(TL.tl y).toArray⟩ := fun y => by cases y; simp [TL.tl]
        rw [h2 (Str.join _ _), h1]
    unfold fJoin at hf
    split at hf
    · rename_i l
      cases hn : strsOf l with
      | none => rw [hn] at hf; cases hf
      | some ns =>
        rw [hn] at hf
        simp only [Option.bind_some] at hf
        split at hf <;> cases hf
        rename_i hl
        have e := strsOf_ok hn
        subst e
        obtain ⟨v, w, rfl, h1, rfl⟩ := r
        obtain ⟨p, vs, rfl, h2, h3⟩ := h1.lst
        rw [reps_strs h3] at h2
        obtain ⟨f1, f2⟩ := fin ns hl
        refine ⟨_, p, ns.map fun l : List Nat => (⟨l.toArray⟩ : Str), rfl, rfl, .inl (by rw [List.map_map]; exact .of h2), f1, ?_⟩
        rw [f2]
        exact q _ H F (Grow.refl s) (.atom rfl (by simp only [rep]))
    · rename_i l
      cases hn : strsOf l with
      | none => rw [hn] at hf; cases hf
      | some ns =>
        rw [hn] at hf
        simp only [Option.bind_some] at hf
        split at hf <;> cases hf
        rename_i hl
        have e := strsOf_ok hn
        subst e
        obtain ⟨v, w, rfl, h1, rfl⟩ := r
        obtain ⟨p, vs, rfl, h2, h3⟩ := h1.tup
        rw [reps_strs h3] at h2
        obtain ⟨f1, f2⟩ := fin ns hl
        refine ⟨_, p, ns.map fun l : List Nat => (⟨l.toArray⟩ : Str), rfl, rfl, .inr (by rw [List.map_map]; exact Same.sqT s h2), f1, ?_⟩
        rw [f2]
        exact q _ H F (Grow.refl s) (.atom rfl (by simp only [rep]))
    · cases hf
/-! ### isinstance of a built-in class -/
def tyD : D → Option String
  | .non => some "NoneType"
  | .bl _ => some "bool"
  | .int _ => some "int"
  | .str _ => some "str"
  | .tup _ => some "tuple"
  | .lst _ => some "list"
  | .dct _ => some "dict"
  | _ => none
def isiB (t T : String) : Bool := t == T || (t == "bool" && T == "int")
def fIsi (T : String) : List D → Option D
  | [d, _] => (tyD d).map fun t => .bl (isiB t T)
  | _ => none
theorem rdd_ty {K : PySem.W.Frag} {mg : Str → Option Value} {H F : Hp} {v : V} {d : D} {t : String} (s : Same F H) (r : Rdd K mg H F v d) (h : tyD d = some t) : TyX K H v (.type t) := by
  cases d <;> simp only [tyD] at h <;> first | (cases h; done) | skip
  · cases h; rw [r.non]; exact .base .non
  · cases h; rw [r.bl]; exact .base (.bl _)
  · cases h; rw [r.int]; exact .base (.int _)
  · cases h; rw [r.str]; exact .base (.str _)
  · cases h
    obtain ⟨p, vs, rfl, h1, h2⟩ := r.tup
    rcases Same.sqT s h1 with (h | ⟨o, h⟩) | ⟨o, its, n, h, h3, _⟩
    · exact .base (.tup h)
    · exact .fTuple h
    · exact .kTuple h h3
  · cases h
    obtain ⟨p, vs, rfl, h1, h2⟩ := r.lst
    exact .base (.lst h1)
  · cases h
    unfold Rdd at r
    rw [if_pos (show cellD (.dct _) = true from rfl)] at r
    obtain ⟨p, o, rfl, h1, xs, rfl, h2⟩ := r
    exact .base (.dK h1)
/-- the class that is asked for, as a value that nothing reads -/
def eTy : Ev := fun ρ => .ok (.non, ρ)
def trTy (X : Cx) (Γ Γ' : Gm) (W : WE) (o : Opd) (T : String) : TA := fun σ H Q => trB X Γ Γ' W o σ H fun v H1 => Q [v, .ty T] H1
theorem ve_isi {o' : Opd} {T : String} (hb : ∀ t ∈ ["NoneType", "bool", "int", "str", "tuple", "list", "dict"], kitB t T = some (isiB t T)) (hT : ClsV (.ty T) (.type T))
    (ha : VB X Γ Γ' W a o') (hp : ∀ {t : TE}, PE X a t → PE X (.Call (.Name x p) [a, b] [] pos) (tCB (rIsi X.K) (tCons t (tCons (tC (.ty T)) tNil)))) :
    VE X Γ Γ' W (.Call (.Name x p) [a, b] [] pos) .fz (eCall (fIsi T) [.bor o', .val eTy]) :=
  peImp (hp ha) fun σ H Q ⟨ρ, F, r, q⟩ => ⟨ρ, F, r, by
    have q := Res.sat_bind.mp q
    have q := Res.sat_bind.mp q
    refine Res.sat_imp q (fun z _ q v H1 F1 e1 r1 b1 => ?_) fun _ h => h
    have q : ((Arg.fins [Arg.bor o', Arg.val eTy] [z.1, some .non] z.2).bind fun ds => (opt (fIsi T ds)).bind fun d => Res.ok (d, z.2)).sat _ _ := q
    obtain ⟨ds, hds, q⟩ := fins_sat q
    obtain ⟨d, hd, hds⟩ : ∃ d, o'.fin z.1 z.2 = .ok d ∧ ds = [d, .non] := by
      unfold Arg.fins at hds
      cases h : (Arg.bor o').fin z.1 z.2 with
      | exn x => exact (Arg.fin_exn h).elim
      | bad => rw [h] at hds; cases hds
      | ok d => rw [h] at hds; exact ⟨d, h, by cases hds; rfl⟩
    subst hds
    have ef : fIsi T [d, .non] = (tyD d).map fun t => .bl (isiB t T) := rfl
    rw [ef] at q
    cases ht : tyD d with
    | none => rw [ht] at q; exact q.elim
    | some t =>
      rw [ht] at q
      have ty := rdd_ty r1.sub (b1.fin r1 (Evo.refl r1.sub) hd) ht
      have mem : t ∈ ["NoneType", "bool", "int", "str", "tuple", "list", "dict"] := by
        cases d <;> simp only [tyD] at ht <;> first | (cases ht; done) | (cases ht; simp)
      exact ⟨v, .ty T, .type t, .type T, isiB t T, rfl, hT, ty, kit_ty (hb t mem), q _ H1 F1 e1 r1 rfl⟩⟩
end
end VL

set_option Elab.async false
set_option linter.all false
set_option maxRecDepth 100000
/-! VL13: chains of comparisons, the module's constants, sorted. -/
namespace VL
open PySem PySem.Spec PyProof.Rows L2

def eChain (f f' : D → D → Option D) (oa ob oc : Opd) : Ev := fun ρ => (oa.run ρ).bind fun p => (ob.run p.2).bind fun s => (oa.fin p.1 s.2).bind fun dx => (ob.fin s.1 s.2).bind fun dy => (opt (f dx dy)).bind fun d => match d with
  | .bl true => (oc.run s.2).bind fun t => (ob.fin s.1 t.2).bind fun dy => (oc.fin t.1 t.2).bind fun dz => (opt (f' dy dz)).bind fun d => .ok (d, t.2)
  | .bl false => .ok (.bl false, s.2)
  | _ => .bad
section
variable {X : Cx} {Γ Γ' Γ1 Γ2 Γ3 : Gm} {W : WE} {e a b c : Expr} {pos : Pos} {m : Md} {ev : Ev} {et : Et} {oa ob oc : Opd} {f f' : D → D → Option D} {r r' : R2}
theorem BOk.evo {K : PySem.W.Frag} {mg : Str → Option Value} {o : Opd} {od : Option D} {O O' : Ft} {σ : St} {H F H' F' : Hp} {v : V} (b : BOk K mg o od O σ H F v) (e : Evo O H F O' H' F') : BOk K mg o od O' σ H' F' v := by
  cases o with
  | slot i => exact b
  | ex f => cases od with
    | none => exact b
    | some d => exact RdN.evo b e
theorem chain_tr (hf : OpF X.K X.mg f r .fz) (hf' : OpF X.K X.mg f' r' .fz) {σ : St} {H : Hp} {Q : VK} (h : trE X Γ Γ2 W .fz (eChain f f' oa ob oc) σ H Q) :
    tChain r r' (trB X Γ Γ1 W oa) (trB X Γ1 Γ2 W ob) (trB X Γ2 Γ2 W oc) σ H Q := by
  obtain ⟨ρ, F, rl, q⟩ := h
  refine ⟨ρ, F, rl, Res.sat_imp (Res.sat_bind.mp q) (fun p _ q x H1 F1 e1 r1 b1 => ⟨p.2, F1, r1, Res.sat_imp (Res.sat_bind.mp q) (fun s _ q y H2 F2 e2 r2 b2 => ?_) fun _ h => h.evo e1⟩) fun _ h => h⟩
  obtain ⟨dx, hx, q⟩ := fin_sat q
  obtain ⟨dy, hy, q⟩ := fin_sat q
  obtain ⟨d, hd, q⟩ := opt_sat (Res.sat_bind.mp q)
  refine hf H2 F2 x y dx dy d _ r2.sub (b1.fin r2 e2 hx) (b2.fin r2 (Evo.refl r2.sub) hy) hd fun u H3 F3 g n => ?_
  cases d <;> first | exact q.elim | skip
  rename_i k
  have n : u = .bl k := n
  subst n
  refine ⟨k, rfl, ?_⟩
  have e13 := (e1.trans e2).trans g.evo
  have r3 := r2.grow g
  have b3 := b2.evo g.evo
  cases k with
  | false =>
    rw [if_neg (by decide)]
    exact q _ H3 F3 e13 r3 rfl
  | true =>
    rw [if_pos rfl]
    refine ⟨s.2, F3, r3, Res.sat_imp (Res.sat_bind.mp q) (fun t _ q w H4 F4 e4 r4 b4 => ?_) fun _ h => h.evo e13⟩
    obtain ⟨dy', hy', q⟩ := fin_sat q
    obtain ⟨dz, hz, q⟩ := fin_sat q
    obtain ⟨d, hd, q⟩ := opt_sat (Res.sat_bind.mp q)
    exact hf' H4 F4 y w dy' dz d _ r4.sub (b3.fin r4 e4 hy') (b4.fin r4 (Evo.refl r4.sub) hz) hd fun u H5 F5 g5 n5 => q u H5 F5 ((e13.trans e4).trans g5.evo) (r4.grow g5) n5
theorem ve_chain {op op' : CmpOp} (ho : OpR X (compareOp op) r) (ho' : OpR X (compareOp op') r') (hf : OpF X.K X.mg f r .fz) (hf' : OpF X.K X.mg f' r' .fz) (ha : VB X Γ Γ1 W a oa) (hb : VB X Γ1 Γ2 W b ob) (hc : VB X Γ2 Γ2 W c oc)
    (hm : lastMarks [op, op'] [b, c] = false := by with_unfolding_all rfl) : VE X Γ Γ2 W (.Compare a [op, op'] [b, c] pos) .fz (eChain f f' oa ob oc) :=
  peImp (pe_chain ho ho' ha hb hc hm) fun _ _ _ h => chain_tr hf hf' h
theorem vt_chain {op op' : CmpOp} (ho : OpR X (compareOp op) r) (ho' : OpR X (compareOp op') r') (hf : OpF X.K X.mg f r .fz) (hf' : OpF X.K X.mg f' r' .fz) (ha : VB X Γ Γ1 W a oa) (hb : VB X Γ1 Γ2 W b ob) (hc : VB X Γ2 Γ2 W c oc)
    (hm : lastMarks [op, op'] [b, c] = false := by with_unfolding_all rfl) : VT X Γ Γ2 W (.Compare a [op, op'] [b, c] pos) (eTB (eChain f f' oa ob oc)) :=
  ptImp (pt_chain ho ho' ha hb hc hm) fun _ _ _ h => chain_tr hf hf' (trT_of h)
/-! ### constants of the module -/
theorem ve_globI {x : Str} {n : Int} (hg : Gl X x) (h : ∃ t, X.mg x = some (.int n t)) (hd : (x == ("__debug__" : Str)) = false := by decide) : VE X Γ Γ W (.Name x pos) .fz (eC (.int n)) := by
  obtain ⟨t, h⟩ := h
  exact ve_const (v := .int n) (pe_glob hg h ⟨t, rfl⟩ hd) fun _ => rfl
theorem ve_globS {x z : Str} {l : List Nat} (hg : Gl X x) (h : ∃ t, X.mg x = some (.str z t)) (hz : z = ⟨l.toArray⟩) (hd : (x == ("__debug__" : Str)) = false := by decide) : VE X Γ Γ W (.Name x pos) .fz (eC (.str l)) := by
  obtain ⟨t, h⟩ := h
  exact ve_const (v := .str z) (pe_glob hg h ⟨t, rfl⟩ hd) fun _ => by subst hz; simp only [rep]
/-! ### sorted of ints -/
def insI (x : Int) : List Int → List Int
  | [] => [x]
  | y :: r => if x ≤ y then x :: y :: r else y :: insI x r
def sortI : List Int → List Int
  | [] => []
  | x :: r => insI x (sortI r)
theorem insI_perm (x : Int) : ∀ l : List Int, (insI x l).Perm (x :: l)
  | [] => List.Perm.refl _
  | y :: r => by
    unfold insI
    split
    · exact List.Perm.refl _
    · exact ((insI_perm x r).cons y).trans (List.Perm.swap x y r)
theorem sortI_perm : ∀ l : List Int, (sortI l).Perm l
  | [] => List.Perm.refl _
  | x :: r => (insI_perm x _).trans ((sortI_perm r).cons x)
theorem insI_sorted (x : Int) : ∀ l : List Int, l.Pairwise (· ≤ ·) → (insI x l).Pairwise (· ≤ ·)
  | [], _ => List.pairwise_singleton _ _
  | y :: r, h => by
    unfold insI
    rw [List.pairwise_cons] at h
    split
    · rename_i hx
      rw [List.pairwise_cons]
      refine ⟨fun z hz => ?_, List.pairwise_cons.mpr h⟩
      rcases List.mem_cons.mp hz with rfl | hz
      · exact hx
      · exact Int.le_trans hx (h.1 z hz)
    · rename_i hx
      rw [List.pairwise_cons]
      refine ⟨fun z hz => ?_, insI_sorted x r h.2⟩
      rcases List.mem_cons.mp ((insI_perm x r).mem_iff.mp hz) with rfl | hz
      · omega
      · exact h.1 z hz
theorem sortI_sorted : ∀ l : List Int, (sortI l).Pairwise (· ≤ ·)
  | [] => List.Pairwise.nil
  | x :: r => insI_sorted x _ (sortI_sorted r)
theorem sorted_uniq : ∀ {a b : List Int}, a.Perm b → a.Pairwise (· ≤ ·) → b.Pairwise (· ≤ ·) → a = b
  | [], b, p, _, _ => by rw [List.nil_perm.mp p]
  | x :: r, [], p, _, _ => by have := p.length_eq; simp at this
  | x :: r, y :: t, p, ha, hb => by
    rw [List.pairwise_cons] at ha hb
    have e : x = y := by
      have h1 : x ∈ y :: t := p.mem_iff.mp List.mem_cons_self
      have h2 : y ∈ x :: r := p.mem_iff.mpr List.mem_cons_self
      have a1 : x ≤ y := by
        rcases List.mem_cons.mp h2 with h | h
        · omega
        · exact ha.1 y h
      have a2 : y ≤ x := by
        rcases List.mem_cons.mp h1 with h | h
        · omega
        · exact hb.1 x h
      omega
    subst e
    rw [sorted_uniq ((List.perm_cons _).mp p) ha.2 hb.2]
def fSorted : List D → Option D
  | [.lst l] => (intsOf l).map fun ns => .lst ((sortI ns).map .int)
  | _ => none
theorem c_sorted {K : PySem.W.Frag} {mg : Str → Option Value} : CallF K mg fSorted (rSortedI K) .own := by
  intro H F vs ds d Q s r hf q
  unfold fSorted at hf
  split at hf
  · rename_i l
    cases hn : intsOf l with
    | none => rw [hn] at hf; cases hf
    | some ns =>
      rw [hn] at hf; cases hf
      have e := intsOf_ok hn
      subst e
      obtain ⟨v, w, rfl, h1, rfl⟩ := r
      obtain ⟨p, vs, rfl, h2, h3⟩ := h1.lst
      rw [reps_ints h3] at h2
      refine ⟨p, ns, rfl, .of h2, fun ns' n hp hs hn => ?_⟩
      have e : ns' = sortI ns := sorted_uniq (hp.trans (sortI_perm ns).symm) hs (sortI_sorted ns)
      subst e
      exact q _ _ F (Grow.newO s hn) (.newL hn s ints_reps)
  · cases hf
end
end VL
namespace VL
def bigN : Nat := 1048576
end VL
namespace VL
theorem ltB {i n : Nat} (h : Nat.ble (i + 1) n = true) : i < n := Nat.le_of_ble_eq_true h
theorem memB {i : Nat} {l : List Nat} (h : l.elem i = true) : i ∈ l := List.mem_of_elem_eq_true h
def allFz (Γ : Gm) (vs : List Nat) : Bool := vs.all fun v => match Γ[v]? with
  | some .fz => true
  | _ => false
theorem allFz_ok {Γ : Gm} {vs : List Nat} (h : allFz Γ vs = true) : ∀ v ∈ vs, Γ[v]? = some .fz := fun v hv => by
  have := List.all_eq_true.mp h v hv
  cases e : Γ[v]? with
  | none => rw [e] at this; cases this
  | some m => rw [e] at this; cases m <;> first | rfl | cases this
def nodB : List Nat → Bool
  | [] => true
  | x :: r => !r.elem x && nodB r
theorem nodupB : ∀ {l : List Nat}, nodB l = true → l.Nodup
  | [], _ => List.nodup_nil
  | x :: r, h => by
    simp only [nodB, Bool.and_eq_true, Bool.not_eq_true'] at h
    refine List.nodup_cons.mpr ⟨fun hm => ?_, nodupB h.2⟩
    rw [List.elem_eq_true_of_mem hm] at h
    exact absurd h.1 (by decide)
end VL
namespace VL
open PySem PySem.Spec PyProof.Rows L2
/-- the law's promise -/
def spL (K : PySem.W.Frag) : Sp := fun vs H Q _ => ∃ (a : Addr) (ns : List Int), vs = [.ref a] ∧ SqL K H a (ns.map V.int) ∧ ns.length ≤ 63 ∧ ∀ H', Q (.bl true) H'
theorem law_imp {P : Program} {w : World} {K : PySem.W.Frag} {mg : Str → Option Value} {base : Heap} {k : Nat} {f : Addr} {fd : FuncData} {ps : List Str} {rm : Md} {fe : Fe} {pm : PM} (G : FnOk P w K mg base CX0 k f fd ps (spFn K mg [pm] rm fe EX0)) (hpm : pm = .brw ∨ pm = .fz) (hrm : rm = .fz)
    (h : ∀ ns : List Int, ns.length ≤ 63 → ∃ os, fe [.scr ns] = .ok (.bl true, os)) : FnOk P w K mg base CX0 k f fd ps (spL K) :=
  G.imp fun vs H Q E ⟨a, ns, e, hS, hl, q⟩ => by
    subst e hrm
    obtain ⟨os, ho⟩ := h ns hl
    have io : ioAd [pm] [V.ref a] = [] := by rcases hpm with rfl | rfl <;> rfl
    have rp : rep K mg H (.scr ns) (.ref a) := by simp only [rep]; exact ⟨a, rfl, hS⟩
    refine ⟨rfl, H, [.scr ns], Same.refl _, ⟨_, [], _, [], rfl, rfl, ?_, rfl, rfl⟩, by rw [io]; exact List.nodup_nil, ?_⟩
    · rcases hpm with rfl | rfl
      · exact rp.rdN (Same.refl _)
      · exact rp
    · rw [ho]
      intro v H' F' _ _ rv
      have rv : v = .bl true := rv
      subst rv
      exact q H'
end VL

set_option Elab.async false
set_option linter.all false
set_option maxRecDepth 100000
/-! VL14: exceptions: classes with fields, raise, defs that raise, their calls. -/
namespace VL
open PySem PySem.Spec PyProof.Rows L2

/-- C(e, ..) where no exception is handled -/
theorem pmkN_oex {X : Cx} {CX : CXT} {x : Str} {e : Expr} {es : List Expr} {ta : TA} {p pos : Pos} {C fI : Addr} {k : Nat} {fd : FuncData} {ps : List Str} {sp : Sp} (T : OexC X.K C) (iC : PySem.W.findIn X.K (.ref C) "__init__" = some (some (.ref fI))) (tI : PySem.W.typeIn X.K (.ref fI) = some (.type "function"))
    (F1 : FnOk X.prog X.w X.K X.mg X.base CX k fI fd ps sp) (hr : Room (k + 1) X.A) (hb : Binds X.K fd ps []) (hx : Passes CX X (fun _ _ _ => False)) (hg : Gl X x) (hm : X.mg x = some (.ref C)) (ha : PA X (e :: es) ta)
    (hdb : (x == ("__debug__" : Str)) = false := by decide) (he : starEach (e :: es) X.env = (false, eval e X.env) :: starEach es X.env := by rfl) (hpl : (backTo pos (starEach es X.env)).any (·.1) = false := by rfl) :
    L2N.PMk X (.Call (.Name x p) (e :: es) [] pos) (tMkO C sp [] ta) := by
  intro pins s σ H Q I h
  obtain ⟨nm, q, N, bs, bm, sn, sub, ab, col, dd, k0, k1, k2, k3, k5, hC, hbm⟩ := T.cls
  refine wpAny_Call_Name_kw (ld_glob I hg hm ?_ hdb)
  refine PySem.W.callWith_K (h₀ := X.base) I.ok.mod.kin T.kC (thn (ha.run pos pins s σ H _ I h) fun us s1 ⟨vs, H1, I1, r1, hz, q1⟩ => ⟨I1.kIn, ?_⟩) he hpl
  show wpAny _ _ (call (.ref C) us) _ _ _
  obtain ⟨hp, g, dr, tk, os⟩ := s1
  have hsz : hp.objs.size ≤ hp.objs.size + 1 := Nat.le_succ _
  have hn : H1 (hp.objs.size + 1) = none := I1.hok.fresh hsz
  have hq := q1 (hp.objs.size + 1) hn
  rw [List.append_nil] at hq
  have kk : ∀ b o, hp.get? b = some o → ((hp.push (PySem.W.kdv_tup us)).push (PySem.HandSPX.excO C hp.objs.size)).get? b = some o := fun b o e => Heap.get?_push_of_some _ (Heap.get?_push_of_some _ e)
  have hget : ((hp.push (PySem.W.kdv_tup us)).push (PySem.HandSPX.excO C hp.objs.size)).get? (hp.objs.size + 1) = some (PySem.HandSPX.excO C hp.objs.size) := by heap_get
  have I2 : Inv X pins σ (upd H1 (hp.objs.size + 1) (exo (hp.objs.size + 1) C none)) ⟨(hp.push (PySem.W.kdv_tup us)).push (PySem.HandSPX.excO C hp.objs.size), g, dr, tk, os⟩ :=
    I1.laid (t' := tk) (a := hp.objs.size + 1) (o := exo (hp.objs.size + 1) C none) (h' := (hp.push (PySem.W.kdv_tup us)).push (PySem.HandSPX.excO C hp.objs.size)) kk hsz (exo_ok hget)
  have r2 : Vals (V.ref (hp.objs.size + 1) :: vs) (Value.ref (hp.objs.size + 1) :: us) := .cons rfl r1
  have hl : (Value.ref (hp.objs.size + 1) :: us ++ []).length = ps.length := by
    have e := r2.length
    rw [F1.len _ _ _ _ hq] at e
    rw [List.append_nil]
    exact e.symm
  have hus : us.length ≤ sizeLine := by
    rw [← Paired.length r1, sizeLine_eq]
    omega
  have b2 := hb _ (Value.ref (hp.objs.size + 1) :: us) I2.kIn hl
  rw [List.append_nil] at b2
  refine wpAny_call (PySem.HandSPX.call_own F.excBase_ValueError (fun Y => PySem.HandSPX.refsVE_contains Y bm hbm) (I1.kIn _ _ hC) (PySem.W.looks_findIn I1.kIn iC) (fun self => PySem.W.bind_fn I1.kIn self tI) hus
    (codeAny_mono (F1.run _ X.stack _ _ ⟨Value.ref (hp.objs.size + 1) :: us, []⟩ (Value.ref (hp.objs.size + 1) :: us) _ _ (fun _ _ _ => False) (hr.make C us []) (I2.env0.make C us []) b2 r2 hq) fun r s' hq' => ?_))
  cases r with
  | error er => exact hx pins σ _ _ er s' I2 hq'
  | ok fl =>
    cases fl with
    | ret u =>
      obtain ⟨v, H2, os2, bare2, un2, hok2, rv, ev, d, fs, ea, ed, hd1, q2⟩ := hq'
      subst ev
      obtain ⟨h2, g2, d2, t2, os'⟩ := s'
      obtain ⟨t0, G, J, kG, ge, hoe, na⟩ := mk_end0 (d2 := d2) (t2 := t2) I1 hsz kk un2 hok2 os2 bare2 ea ed hd1
      exact ⟨rv, hp.objs.size + 1, _, _, ⟨G, g2, d2, t2, os'⟩, _, .ref C, some d, rfl, J, kG, ge, hoe, ⟨rfl, rfl, fun vs e => by cases e; rfl⟩, rfl, rfl, na, rfl, bare2, raises_own T.exC T.tyC, q2⟩
    | next => exact False.elim hq'
    | brk => exact False.elim hq'
    | cont => exact False.elim hq'

/-! ### classes with one or two fields -/
def spI1 (C : Addr) (f : Str) : Sp := fun vs H Q _ => ∃ a y, vs = [.ref a, y] ∧ H a = some (exo a C none) ∧ ∀ dx, H dx = none → dx ≠ a → Q .non (upd (upd H dx (exd dx [(f, y)])) a (exo a C (some dx)))
def spI2 (C : Addr) (f g : Str) : Sp := fun vs H Q _ => ∃ a y z, vs = [.ref a, y, z] ∧ H a = some (exo a C none) ∧ ∀ dx, H dx = none → dx ≠ a → Q .non (upd (upd (upd H dx (exd dx [(f, y)])) a (exo a C (some dx))) dx (exd dx [(g, z), (f, y)]))
section
variable {P : Program} {w : World} {K : PySem.W.Frag} {mg : Str → Option Value} {base : Heap} {C fI : Addr} {fd : FuncData} {st : Stmt} {qual f g : Str} {k : Nat}
/-- what the written part says of a class of exceptions -/
structure XCls (K : PySem.W.Frag) (mg : Str → Option Value) (nm : String) (C fI : Addr) (fs : List Str) : Prop where
  gm : mg (Str.ofString nm) = some (.ref C)
  T : OexC K C
  iC : PySem.W.findIn K (.ref C) "__init__" = some (some (.ref fI))
  tI : PySem.W.typeIn K (.ref fI) = some (.type "function")
  no : ∀ f ∈ fs, PySem.W.findIn K (.ref C) f = some none
theorem ok_init1 {p1 p2 p3 p4 : Pos} (Fn : Fun K "__init__" qual st fI fd) (S : FnScope ["self", f] ["self", f] (defScope st)) (T : OexC K C) (no : PySem.W.findIn K (.ref C) f = some none) (hbd : defBody st = [.Assign [.Attribute (.Name "self" p1) f p2] (.Name f p3) p4])
    (hv : ∀ (cdv : Value) (A : Around) (outer : List PySem.Env) (s : Shared) (H : Hp) (E : XK), PE (cxOf CX0 P w K mg base ["self", f] qual (defScope st) fI cdv A outer s H E).nox (.Name "self" p1) (tVar 0) ∧ PE (cxOf CX0 P w K mg base ["self", f] qual (defScope st) fI cdv A outer s H E).nox (.Name f p3) (tVar 1)) : FnOk P w K mg base CX0 (k + 1) fI fd ["self", f] (spI1 C f) := by
  refine Fn.ok S (fun vs H Q E h => ?_) (fun cdv A outer s H vs Q E hr h => ?_)
  · obtain ⟨a, y, rfl, _⟩ := h
    rfl
  · obtain ⟨a, y, rfl, ha, q⟩ := h
    obtain ⟨h1, h2⟩ := hv cdv A outer s H E
    rw [hbd]
    exact ⟨_, pss_one (ps_ost h1 h2), _, rfl, _, rfl, a, C, rfl, T, no, .inl ⟨ha, fun dx n ne => q dx n ne⟩⟩
theorem ok_init2 {p1 p2 p3 p4 q1 q2 q3 q4 : Pos} (Fn : Fun K "__init__" qual st fI fd) (S : FnScope ["self", f, g] ["self", f, g] (defScope st)) (T : OexC K C) (nof : PySem.W.findIn K (.ref C) f = some none) (nog : PySem.W.findIn K (.ref C) g = some none)
    (hbd : defBody st = [.Assign [.Attribute (.Name "self" p1) f p2] (.Name f p3) p4, .Assign [.Attribute (.Name "self" q1) g q2] (.Name g q3) q4])
    (hv : ∀ (cdv : Value) (A : Around) (outer : List PySem.Env) (s : Shared) (H : Hp) (E : XK), PE (cxOf CX0 P w K mg base ["self", f, g] qual (defScope st) fI cdv A outer s H E).nox (.Name "self" p1) (tVar 0) ∧ PE (cxOf CX0 P w K mg base ["self", f, g] qual (defScope st) fI cdv A outer s H E).nox (.Name f p3) (tVar 1) ∧
      PE (cxOf CX0 P w K mg base ["self", f, g] qual (defScope st) fI cdv A outer s H E).nox (.Name "self" q1) (tVar 0) ∧ PE (cxOf CX0 P w K mg base ["self", f, g] qual (defScope st) fI cdv A outer s H E).nox (.Name g q3) (tVar 2)) : FnOk P w K mg base CX0 (k + 1) fI fd ["self", f, g] (spI2 C f g) := by
  refine Fn.ok S (fun vs H Q E h => ?_) (fun cdv A outer s H vs Q E hr h => ?_)
  · obtain ⟨a, y, z, rfl, _⟩ := h
    rfl
  · obtain ⟨a, y, z, rfl, ha, q⟩ := h
    obtain ⟨h1, h2, h3, h4⟩ := hv cdv A outer s H E
    rw [hbd]
    refine ⟨_, pss_cons (ps_ost h1 h2) (pss_one (ps_ost h3 h4)), _, rfl, _, rfl, a, C, rfl, T, nof, .inl ⟨ha, fun dx n ne => ?_⟩⟩
    exact ⟨_, rfl, _, rfl, a, C, rfl, T, nog, .inr ⟨dx, _, upd_same, by rw [upd_ne ne, upd_same], by simp, q dx n ne⟩⟩
end

/-! ### wishes -/
/-- a wish of the hand layer as a wish about values -/
def liftW (K : PySem.W.Frag) (mg : Str → Option Value) (W : WX) : WE := fun x σ H F => Same F H → ∀ cls d, XRep K mg F x.cls x.fs cls d → W cls d σ H
def EXW (K : PySem.W.Frag) (mg : Str → Option Value) : XW := fun x H F E => Same F H → ∀ cls d, XRep K mg F x.cls x.fs cls d → E cls d H

theorem mk_heap {H : Hp} {a d : Addr} {o1 o2 o3 u : HO} (hn : H a = none) (hd : d ≠ a) : upd (del (upd (upd (upd H a o1) d o2) a o3) a) d u = upd H d u := by
  funext b
  by_cases hb : b = d
  · subst hb; rw [upd_same, upd_same]
  · rw [upd_ne hb, upd_ne hb]
    by_cases ha : b = a
    · subst ha; rw [del_same, hn]
    · rw [del_ne ha, upd_ne ha, upd_ne hb, upd_ne ha]
theorem mk_heap2 {H : Hp} {a d : Addr} {o1 o2 o3 o4 u : HO} (hn : H a = none) (hd : d ≠ a) : upd (del (upd (upd (upd (upd H a o1) d o2) a o3) d o4) a) d u = upd H d u := by
  funext b
  by_cases hb : b = d
  · subst hb; rw [upd_same, upd_same]
  · rw [upd_ne hb, upd_ne hb]
    by_cases ha : b = a
    · subst ha; rw [del_same, hn]
    · rw [del_ne ha, upd_ne hb, upd_ne ha, upd_ne hb, upd_ne ha]
/-- C(e, ..): a new dict with the fields -/
def tMkF (C : Addr) (fs : List Str) (ta : TA) : St → Hp → XK → Prop := fun σ H Q => ta σ H fun vs H1 => vs.length = fs.length ∧ ∀ d, H1 d = none → Q (.ref C) (some d) (upd H1 d (.xd (fs.zip vs).reverse))
/-- raise C(e, ..) -/
def sRaise (c : String) (fs : List String) (as : List Arg) : Es := fun ρ => (Arg.runs as ρ).bind fun p => (Arg.fins as p.1 p.2).bind fun ds => if ds.length = fs.length then .exn ⟨c, (fs.zip ds).reverse⟩ else .bad
theorem repsF_append {K : PySem.W.Frag} {mg : Str → Option Value} {F : Hp} : ∀ {ds es : List (String × D)} {vs us : List (Str × V)}, repsF K mg F ds vs → repsF K mg F es us → repsF K mg F (ds ++ es) (vs ++ us)
  | [], _, _, _, h, k => by simp only [repsF] at h; subst h; simpa using k
  | (c, d) :: ds, _, _, _, h, k => by
    simp only [repsF] at h
    obtain ⟨v, r, rfl, h1, h2⟩ := h
    show repsF K mg F ((c, d) :: (ds ++ _)) ((Str.ofString c, v) :: (r ++ _))
    simp only [repsF]
    exact ⟨v, _, rfl, h1, repsF_append h2 k⟩
theorem repsF_one {K : PySem.W.Frag} {mg : Str → Option Value} {F : Hp} {c : String} {d : D} {v : V} (h : rep K mg F d v) : repsF K mg F [(c, d)] [(Str.ofString c, v)] := by
  simp only [repsF]
  exact ⟨v, [], rfl, h, rfl⟩
section
variable {X : Cx} {Γ Γ' Γ1 : Gm} {S : SC} {W : WX} {C fI : Addr} {k : Nat} {fd : FuncData} {f g nm : String} {e : Expr} {es : List Expr} {as : List Arg} {p pos pos2 : Pos} {fs : List Str}
theorem raise_end {H1 F1 : Hp} {σ : St} {ρ : Env} {Γ : Gm} {x : Exn} {vs : List (Str × V)} (c : X.mg (Str.ofString x.cls) = some (.ref C)) (rl : Rel X.K X.mg Γ ρ σ H1 F1) (rr : repsF X.K X.mg F1 x.fs vs) (h : exW (liftW X.K X.mg W) Γ ρ σ H1 F1 x) {d : Addr} (hd : H1 d = none) : W (.ref C) (some d) σ (upd H1 d (.xd vs)) := by
  have hf : F1 d = none := by
    cases e : F1 d with
    | none => rfl
    | some o => rw [rl.sub _ _ e] at hd; cases hd
  have sub : Same (upd F1 d (.xd vs)) (upd H1 d (.xd vs)) := fun b o e => by
    by_cases hb : b = d
    · subst hb; rw [upd_same] at e ⊢; exact e
    · rw [upd_ne hb] at e ⊢; exact rl.sub _ _ e
  refine h (upd H1 d (.xd vs)) (upd F1 d (.xd vs)) (Own Γ ρ σ) ⟨Same.updF hf, sub, fun q o e1 e2 e3 => ?_, fun q e => ?_, fun _ z => .inl z, fun _ _ z => z⟩ sub (.ref C) (some d) ⟨C, c, rfl, .inr ⟨d, vs, rfl, upd_same, repsF_mono (Same.updF hf) rr⟩⟩
  · have hq : q ≠ d := fun z => by subst z; rw [hd] at e1; cases e1
    rw [upd_ne hq, upd_ne hq]
    exact ⟨e1, e2⟩
  · by_cases hb : q = d
    · subst hb; exact hd
    · rw [upd_ne hb] at e; exact e
theorem vs_raise1 (hc : X.calm = true) (tk : L2N.Takes X W) (c : XCls X.K X.mg nm C fI [Str.ofString f]) (F1 : FnOk X.prog X.w X.K X.mg X.base CX0 k fI fd ["self", Str.ofString f] (spI1 C (Str.ofString f))) (hr : Room (k + 1) X.A) (hb : Binds X.K fd ["self", Str.ofString f] []) (hg : Gl X (Str.ofString nm)) (ha : VA X Γ Γ1 (liftW X.K X.mg W) [e] as) (hv : allVal as = true)
    (hdb : (Str.ofString nm == ("__debug__" : Str)) = false := by decide) (he : starEach (e :: []) X.env = (false, eval e X.env) :: starEach [] X.env := by rfl) (hpl : (backTo pos (starEach [] X.env)).any (·.1) = false := by rfl) :
    VS X Γ Γ' S (liftW X.K X.mg W) (.Raise (some (.Call (.Name (Str.ofString nm) p) [e] [] pos)) none pos2) (sRaise nm [f] as) :=
  psImp (L2N.ps_raise hc tk (pmkN_oex c.T c.iC c.tI F1 hr hb pass0 hg c.gm ha hdb he hpl)) fun D σ H ⟨ρ, F, rl, q⟩ => by
    refine ⟨ρ, F, rl, Res.sat_imp (Res.sat_bind.mp q) (fun z _ q vs H1 F1 e1 r1 b1 => ?_) fun _ h => h.ex⟩
    obtain ⟨ds, hds, q⟩ := fins_sat q
    have rr := (b1.fin r1 hds).reps hv
    have lr := reps_length rr
    split at q
    · rename_i hl
      match ds, vs, hl, lr, rr with
      | [d], [v], _, _, rr =>
        simp only [reps] at rr
        obtain ⟨v', r', ev, rv, er⟩ := rr
        cases ev
        refine ⟨by simp, fun a hn => ⟨a, v, by simp, upd_same, fun dx hdx ne => ⟨rfl, dx, _, upd_same, by rw [upd_ne ne, upd_same], by rw [upd_ne ne] at hdx; exact hdx, ?_⟩⟩⟩
        have hd1 : H1 dx = none := by rw [upd_ne ne] at hdx; exact hdx
        rw [mk_heap hn ne]
        exact raise_end c.gm r1 (x := ⟨nm, [(f, d)]⟩) (repsF_one rv) (by have := exWS.ex q; exact this.evo e1) hd1
    · exact q.elim
theorem vs_raise2 {e2 : Expr} (hc : X.calm = true) (tk : L2N.Takes X W) (c : XCls X.K X.mg nm C fI [Str.ofString f, Str.ofString g]) (F1 : FnOk X.prog X.w X.K X.mg X.base CX0 k fI fd ["self", Str.ofString f, Str.ofString g] (spI2 C (Str.ofString f) (Str.ofString g))) (hr : Room (k + 1) X.A) (hb : Binds X.K fd ["self", Str.ofString f, Str.ofString g] []) (hg : Gl X (Str.ofString nm)) (ha : VA X Γ Γ1 (liftW X.K X.mg W) [e, e2] as) (hv : allVal as = true)
    (hdb : (Str.ofString nm == ("__debug__" : Str)) = false := by decide) (he : starEach (e :: [e2]) X.env = (false, eval e X.env) :: starEach [e2] X.env := by rfl) (hpl : (backTo pos (starEach [e2] X.env)).any (·.1) = false := by rfl) :
    VS X Γ Γ' S (liftW X.K X.mg W) (.Raise (some (.Call (.Name (Str.ofString nm) p) [e, e2] [] pos)) none pos2) (sRaise nm [f, g] as) :=
  psImp (L2N.ps_raise hc tk (pmkN_oex c.T c.iC c.tI F1 hr hb pass0 hg c.gm ha hdb he hpl)) fun D σ H ⟨ρ, F, rl, q⟩ => by
    refine ⟨ρ, F, rl, Res.sat_imp (Res.sat_bind.mp q) (fun z _ q vs H1 F1 e1 r1 b1 => ?_) fun _ h => h.ex⟩
    obtain ⟨ds, hds, q⟩ := fins_sat q
    have rr := (b1.fin r1 hds).reps hv
    have lr := reps_length rr
    split at q
    · rename_i hl
      match ds, vs, hl, lr, rr with
      | [d, d2], [v, v2], _, _, rr =>
        simp only [reps] at rr
        obtain ⟨_, _, ev, rv, _, _, ev2, rv2, er⟩ := rr
        cases ev2
        cases ev
        refine ⟨by simp, fun a hn => ⟨a, v, v2, by simp, upd_same, fun dx hdx ne => ⟨rfl, dx, _, by rw [upd_ne (Ne.symm ne), upd_same], upd_same, by rw [upd_ne ne] at hdx; exact hdx, ?_⟩⟩⟩
        have hd1 : H1 dx = none := by rw [upd_ne ne] at hdx; exact hdx
        rw [mk_heap2 hn ne]
        exact raise_end c.gm r1 (x := ⟨nm, [(g, d2), (f, d)]⟩) (repsF_append (repsF_one rv2) (repsF_one rv)) (by have := exWS.ex q; exact this.evo e1) hd1
    · exact q.elim
end
end VL

set_option Elab.async false
set_option linter.all false
set_option maxRecDepth 100000
/-! VL15: defs that raise, their calls, try. -/
namespace VL
open PySem PySem.Spec PyProof.Rows L2

/-- a def by its body: exceptions may leave it -/
theorem fn_okX {P : Program} {w : World} {K : PySem.W.Frag} {mg : Str → Option Value} {base : Heap} {x qual : Str} {st : Stmt} {f : Addr} {fd : FuncData} {N ps : List Str} {k : Nat} {pms : List PM} {rm : Md} {eb : Es} {As : List Nat}
    (Fn : Fun K x qual st f fd) (S : FnScope N ps (defScope st)) (hp : pms.length = ps.length) (hN : pms.length ≤ N.length)
    (hb : ∀ (cdv : Value) (A : Around) (outer : List PySem.Env) (s : Shared) (H : Hp) (vs : List V) (E : XK), Room k (A.deeper (envOfC qual (defScope st) s.heap.objs.size f cdv)) → vs.length = pms.length → (∀ (i : Nat) (v : V), pms[i]? = some PM.io → vs[i]? = some v → ∃ q, v = .ref q) →
      ∃ Γ', (∀ i q, (i, q) ∈ io0 0 pms vs → Γ'[i]? = some (.io q)) ∧
        VSs (cxOf (L2N.CX P w) P w K mg base N qual (defScope st) f cdv A outer s H E) (g0 pms vs ++ List.replicate (N.length - pms.length) .fz) Γ' ⟨[], As, io0 0 pms vs, rm⟩ (liftW K mg fun cls d _ H => E cls d H) (defBody st) eb)
    (hr : rm = .own ∨ rm = .fz) :
    FnOk P w K mg base (L2N.CX P w) (k + 1) f fd ps (spFn K mg pms rm (fnEv pms N.length eb) (EXW K mg)) := by
  obtain ⟨oc, od, kV, doc, pm, an, cdv, ct, osl, rfl, lk, hcd⟩ := Fn.ex
  refine fn_of lk hcd S (fun vs H Q E h => h.1.trans hp) fun A outer s H vs Q E hroom h => ?_
  obtain ⟨hl, F, ds, sm, pa, nd, q⟩ := h
  have isref : ∀ (i : Nat) (v : V), pms[i]? = some PM.io → vs[i]? = some v → ∃ q, v = .ref q := fun i v h1 h2 => by
    obtain ⟨v', d', k1, k2, k3⟩ := pa.get h1
    rw [h2] at k1; cases k1
    obtain ⟨q, e, _⟩ := k3
    exact ⟨q, e⟩
  obtain ⟨Γ', hΓ, hv⟩ := hb cdv A outer s H vs E hroom hl isref
  refine ⟨_, hv, ds.map some ++ List.replicate (N.length - ds.length) none, F, ?_⟩
  obtain ⟨r0, o0⟩ := rel_start (N := N) sm pa nd hN
  have fe : ∀ {O' : Ft} {H' F' : Hp}, Evo (Own (g0 pms vs ++ List.replicate (N.length - pms.length) .fz) (ds.map some ++ List.replicate (N.length - ds.length) none) (L2.start N vs)) H F O' H' F' → FEvo (ioAd pms vs) H F H' F' := fun e => ⟨e.sf, e.sh, fun p o k1 k2 k3 => e.kp p o k1 k2 fun z => k3 (o0 p z), e.dom⟩
  refine ⟨r0, Res.sat_imp (Res.sat_bind.mp q) (fun fl _ q => ?_) fun y h => fun σ' H' F' O' e _ => h H' F' (fe e)⟩
  have back : ∀ {ρ' : Env} {σ' : St} {H' F' : Hp} {Γr : Gm} {outs : List D}, Rel K mg Γr ρ' σ' H' F' → (∀ i q, (i, q) ∈ io0 0 pms vs → Γr[i]? = some (.io q)) → outs.length = (ioIx 0 pms).length → (∀ (k i : Nat) (d : D), (ioIx 0 pms)[k]? = some i → outs[k]? = some d → ρ'[i]? = some (some d)) → IoBack K mg (ioAd pms vs) outs H' F' := fun {ρ' σ' H' F' Γr outs} r hi h1 h2 =>
    ⟨by rw [h1]; exact ioIx_length isref hl, fun k p d e1 e2 => by
      obtain ⟨i, g1, g2⟩ := io0_at (n := 0) isref hl e1
      obtain ⟨v, a1, a2, a3, a4⟩ := r.slot i _ d (hi i p g2) (h2 k i d g1 e2)
      subst a2
      exact ⟨a3, a4⟩⟩
  cases fl with
  | next ρ' =>
    obtain ⟨outs, q, h1, h2⟩ := outs_sat (Res.sat_bind.mp q)
    exact fun σ' H' F' e k r => q .non H' F' (fe e) (back r hΓ h1 h2) (by
      rcases hr with rfl | rfl
      · exact ⟨by unfold Cell; rw [if_neg (show ¬ cellD .non = true from fun h => nomatch h)]; simp only [rep], fun c => by cases c⟩
      · simp only [RetF, rep])
  | brk ρ' => exact q.elim
  | cont ρ' => exact q.elim
  | ret d ρ' =>
    obtain ⟨outs, q, h1, h2⟩ := outs_sat (Res.sat_bind.mp q)
    refine fun v σ' H' F' Γr e r hi rv => q v H' F' (fe e) (back r hi h1 h2) ?_
    rcases hr with rfl | rfl
    · refine ⟨rv.1, fun c p z => ?_⟩
      rcases rv.2 c p z with k1 | ⟨k1, k2⟩
      · exact k1
      · obtain ⟨j, hj⟩ := List.getElem?_of_mem (o0 p k1)
        obtain ⟨i', g1, g2⟩ := io0_at (n := 0) isref hl hj
        exact absurd rfl (k2 i' p g2)
    · exact rv
section
variable {X : Cx} {Γ Γ' Γ1 Γ2 Γ3 : Gm} {S : SC} {W : WX} {e : Expr} {es : List Expr} {p pos : Pos} {m rm : Md} {as : List Arg} {x : Str} {pms : List PM} {fe : Fe}
/-- a call of a def that may raise -/
theorem ve_callX (hrm : rm = .own ∨ rm = .fz) (ha : VA X Γ Γ' (liftW X.K X.mg W) (e :: es) as) (hok : okA (ioSl as) pms as = true) (hnd : (ioSl as).Nodup) (hm : mutAll Γ' (ioSl as) = true)
    (hp : ∀ {t : TA}, PA X (e :: es) t → PE X (.Call (.Name x p) (e :: es) [] pos) (tCallS (spFn X.K X.mg pms rm fe (EXW X.K X.mg)) (L2.WE W) t)) :
    VE X Γ Γ' (liftW X.K X.mg W) (.Call (.Name x p) (e :: es) [] pos) rm (eFn pms fe as) :=
  peImp (hp ha) fun σ H Q h => call_fn_tr (W := liftW X.K X.mg W) (EX := EXW X.K X.mg) (E := L2.WE W σ) (σ := σ) hok hnd (mutAll_ok hm) (fun y H F ρ k ad H' F' ev fv s cls d xr => k H' F' _ ev s cls d xr) h hrm
end

/-! ### try -/
/-- the body; the exceptions of the classes cs go to the suite, there in slot i; ws: the slots that are lost -/
def sTry (i : Nat) (ws : List Nat) (cs : List String) (body suite : Es) : Es := fun ρ => match body ρ with
  | .ok fl => .ok fl
  | .exn x => if cs.contains x.cls = true then match suite ((wipeE ρ ws).set i (some (.exc x.cls x.fs))) with
      | .ok (.next ρ') => .ok (.next (ρ'.set i none))
      | .ok (.ret d ρ') => .ok (.ret d ρ')
      | _ => .bad
    else .bad
  | .bad => .bad
/-- slots ws are all that may be changed or stored; slot i is one of them -/
def tryB (Γ : Gm) (i : Nat) (ws As1 As : List Nat) : Bool := (decide (Γ[i]?.isSome) && (As1.all fun j => ws.contains j && As.contains j) && As.contains i) && ((List.range Γ.length).all fun j => match Γ[j]? with
  | some m => !m.mut || ws.contains j
  | none => true)
theorem wipeE_length {ρ : Env} : ∀ vs : List Nat, (wipeE ρ vs).length = ρ.length
  | [] => rfl
  | v :: vs => by simp only [wipeE, List.length_set, wipeE_length vs]
theorem wipeE_in {ρ : Env} {d : D} : ∀ {vs : List Nat} {j : Nat}, (wipeE ρ vs)[j]? = some (some d) → j ∉ vs ∧ ρ[j]? = some (some d)
  | [], _, h => ⟨by simp, h⟩
  | v :: vs, j, h => by
    simp only [wipeE] at h
    rcases set_get h with ⟨_, e, _⟩ | ⟨e, h⟩
    · cases e
    · obtain ⟨h1, h2⟩ := wipeE_in h
      exact ⟨by simp only [List.mem_cons, not_or]; exact ⟨fun z => e z.symm, h1⟩, h2⟩
section
variable {K : PySem.W.Frag} {mg : Str → Option Value} {Γ Γ' Γ2 : Gm} {ρ : Env} {σ σ' : St} {H F H' F' : Hp} {O' : Ft} {i : Nat} {ws As1 As : List Nat} {a : Addr} {cls : Value} {d : Option Addr} {x : Exn}
theorem try_rel (r : Rel K mg Γ ρ σ H F) (hb : tryB Γ i ws As1 As = true) (e : Evo (Own Γ ρ σ) H F O' H' F') (k : Keep As1 σ σ') (s : Same F' H') (xr : XRep K mg F' x.cls x.fs cls d) :
    Rel K mg (Γ.set i (.xc a cls d)) ((wipeE ρ ws).set i (some (.exc x.cls x.fs))) (σ'.set i (some (.ref a))) H' F' ∧ Evo (Own Γ ρ σ) H F (Own (Γ.set i (.xc a cls d)) ((wipeE ρ ws).set i (some (.exc x.cls x.fs))) (σ'.set i (some (.ref a)))) H' F' ∧ Keep As σ (σ'.set i (some (.ref a))) := by
  unfold tryB at hb
  simp only [Bool.and_eq_true, List.all_eq_true, decide_eq_true_eq, List.contains_iff_mem] at hb
  obtain ⟨⟨⟨hi, h1⟩, hiA⟩, h2⟩ := hb
  have hiΓ : i < Γ.length := by
    rcases Nat.lt_or_ge i Γ.length with q | q
    · exact q
    · rw [List.getElem?_eq_none q] at hi; cases hi
  have hm : ∀ {j : Nat} {m : Md}, Γ[j]? = some m → m.mut = true → j ∈ ws := fun {j m} hj mu => by
    have hl : j < Γ.length := by
      rcases Nat.lt_or_ge j Γ.length with q | q
      · exact q
      · rw [List.getElem?_eq_none q] at hj; cases hj
    have := h2 j (List.mem_range.mpr hl)
    rw [hj] at this
    simpa [mu] using this
  have hiσ : i < σ'.length := by rw [k.1, ← r.lg]; exact hiΓ
  have hiρ : i < (wipeE ρ ws).length := by rw [wipeE_length, r.lr, ← r.lg]; exact hiΓ
  -- slots that are left
  have left : ∀ {j : Nat} {m : Md} {y : D}, i ≠ j → Γ[j]? = some m → (wipeE ρ ws)[j]? = some (some y) → m.mut = false ∧ ρ[j]? = some (some y) ∧ σ'[j]? = σ[j]? := fun {j m y} ne g1 g2 => by
    obtain ⟨n1, g3⟩ := wipeE_in g2
    refine ⟨?_, g3, k.2 j fun z => n1 (h1 j z).1⟩
    cases hmu : m.mut with
    | false => rfl
    | true => exact absurd (hm g1 hmu) n1
  have noOwn : ∀ j p, ¬ OwnAt (Γ.set i (.xc a cls d)) ((wipeE ρ ws).set i (some (.exc x.cls x.fs))) (σ'.set i (some (.ref a))) j p := fun j p ⟨m, y, g1, g2, g3, g4, g5⟩ => by
    by_cases e : i = j
    · subst e
      rw [getset hiΓ] at g1; cases g1; cases g2
    · rw [List.getElem?_set_ne e] at g1 g3
      rw [(left e g1 g3).1] at g2; cases g2
  have brw : ∀ j p, BrwAt (Γ.set i (.xc a cls d)) ((wipeE ρ ws).set i (some (.exc x.cls x.fs))) (σ'.set i (some (.ref a))) j p → BrwAt Γ ρ σ j p := fun j p ⟨y, g1, g3, g4, g5⟩ => by
    by_cases e : i = j
    · subst e
      rw [getset hiΓ] at g1; cases g1
    · rw [List.getElem?_set_ne e] at g1 g3 g5
      obtain ⟨_, q2, q3⟩ := left e g1 g3
      exact ⟨y, g1, q2, g4, by rw [← q3]; exact g5⟩
  have ev : Evo (Own Γ ρ σ) H F (Own (Γ.set i (.xc a cls d)) ((wipeE ρ ws).set i (some (.exc x.cls x.fs))) (σ'.set i (some (.ref a)))) H' F' :=
    ⟨e.sf, e.sh, e.kp, e.dom, fun p ⟨j, hj⟩ => absurd hj (noOwn j p), fun j p hj => brw j p hj⟩
  refine ⟨⟨by rw [List.length_set, List.length_set, wipeE_length, r.lr, k.1], by rw [List.length_set, List.length_set, r.lg, k.1], fun j m y g1 g2 => ?_, fun a' b p ga gb => absurd ga (noOwn a' p), s⟩, ev, ?_⟩
  · by_cases e' : i = j
    · subst e'
      rw [getset hiΓ] at g1; cases g1
      rw [getset hiρ] at g2; cases g2
      exact ⟨.ref a, getset hiσ, rfl, x.cls, x.fs, rfl, xr⟩
    · rw [List.getElem?_set_ne e'] at g1 g2
      obtain ⟨q1, q2, q3⟩ := left e' g1 g2
      obtain ⟨v, w1, w2⟩ := r.slot j m y g1 q2
      refine ⟨v, by rw [List.getElem?_set_ne e', q3]; exact w1, ?_⟩
      cases m with
      | fz => exact rep_mono e.sf w2
      | own => cases q1
      | io q => cases q1
      | brw => exact RdN.evo w2 ev
      | xc a' c' d' => exact xc_mono e.sf w2
  · exact (Keep.sub (fun j hj => (h1 j hj).2) k).trans (Keep.set hiA)
theorem try_end (hi : i < Γ'.length) (hg : Γ'[i]? = some .fz) (r : Rel K mg (Γ'.set i (.xc a cls d)) ρ σ H F) : Rel K mg Γ' (ρ.set i none) (σ.set i none) H F ∧ Evo (Own (Γ'.set i (.xc a cls d)) ρ σ) H F (Own Γ' (ρ.set i none) (σ.set i none)) H F := by
  have own : ∀ j p, OwnAt Γ' (ρ.set i none) (σ.set i none) j p → OwnAt (Γ'.set i (.xc a cls d)) ρ σ j p := fun j p ⟨m, y, g1, g2, g3, g4, g5⟩ => by
    by_cases e : i = j
    · subst e
      rw [hg] at g1; cases g1; cases g2
    · rw [List.getElem?_set_ne e] at g3 g5
      exact ⟨m, y, by rw [List.getElem?_set_ne e]; exact g1, g2, g3, g4, g5⟩
  have brw : ∀ j p, BrwAt Γ' (ρ.set i none) (σ.set i none) j p → BrwAt (Γ'.set i (.xc a cls d)) ρ σ j p := fun j p ⟨y, g1, g3, g4, g5⟩ => by
    by_cases e : i = j
    · subst e
      rw [hg] at g1; cases g1
    · rw [List.getElem?_set_ne e] at g3 g5
      exact ⟨y, by rw [List.getElem?_set_ne e]; exact g1, g3, g4, g5⟩
  have ev : Evo (Own (Γ'.set i (.xc a cls d)) ρ σ) H F (Own Γ' (ρ.set i none) (σ.set i none)) H F := (Evo.refl r.sub).mono (fun _ z => z) (fun p ⟨j, hj⟩ => .inl ⟨j, own j p hj⟩) fun j p hj => brw j p hj
  refine ⟨⟨by rw [List.length_set, List.length_set]; exact r.lr, by rw [List.length_set, ← r.lg, List.length_set], fun j m y g1 g2 => ?_, fun a' b p ga gb => r.inj a' b p (own _ _ ga) (own _ _ gb), r.sub⟩, ev⟩
  by_cases e' : i = j
  · subst e'
    rcases set_get g2 with ⟨_, z, _⟩ | ⟨z, _⟩
    · cases z
    · exact absurd rfl z
  · rw [List.getElem?_set_ne e'] at g2
    obtain ⟨v, w1, w2⟩ := r.slot j m y (by rw [List.getElem?_set_ne e']; exact g1) g2
    refine ⟨v, by rw [List.getElem?_set_ne e']; exact w1, ?_⟩
    cases m with
    | brw => exact RdN.evo w2 ev
    | _ => exact w2
end
section
variable {X : Cx} {Γ Γ' Γ1 Γ2 Γ3 : Gm} {S : SC} {W : WE} {x n : Str} {c : Value} {i : Nat} {body suite : List Stmt} {b₀ : Stmt} {np pos pos' : Pos} {eb es : Es} {ws As1 : List Nat} {cs : List String}
theorem okS.as {D : Ends} {ρ : Env} {σ : St} {H F : Hp} {fl : Fl} (hA : ∀ j ∈ As1, j ∈ S.As) (h : okS X Γ Γ' S D ρ σ H F fl) : okS X Γ Γ' { S with As := As1 } D ρ σ H F fl := by
  cases fl with
  | next ρ' => exact fun σ' H' F' e1 k1 r1 => h σ' H' F' e1 (k1.sub hA) r1
  | brk ρ' => exact fun σ' H' F' e1 k1 r1 => h σ' H' F' e1 (k1.sub hA) r1
  | cont ρ' => exact fun σ' H' F' e1 k1 r1 => h σ' H' F' e1 (k1.sub hA) r1
  | ret d ρ' => exact h
theorem vs_try (hb0 : tryB Γ i ws As1 S.As = true) (hg : Γ'[i]? = some .fz) (hs : X.stack = X.env :: X.outer) (hf : X.env.frame = some X.env.locals) (hN : X.N.Nodup) (hi : X.N[i]? = some n) (hln : X.env.kindOf n = some .local) (hc : Names X x c) {Wout : WX} (tk : L2N.Takes X Wout)
    (hcs : ∀ nm ∈ cs, ∀ C, X.mg (Str.ofString nm) = some (.ref C) → PySem.W.exmOne X.K (.ref C) c = some true)
    (hb : ∀ (W1 : WX) (pn : List (Addr × Obj)) (xe : Value → Shared → Prop), L2N.Takes (X.tr pn xe) W1 → PassesOwn (model X.prog X.w) X.A X.env xe → VSs (X.tr pn xe) Γ Γ' { S with As := As1 } (liftW X.K X.mg W1) body eb)
    (hsu : ∀ (a : Addr) (oe : Obj) (cls : Value) (d : Option Addr) (pn : List (Addr × Obj)), L2N.Zn cls d oe → (∃ vs, oe.data = .fields vs) → VSs (X.suite a ((a, oe) :: pn)) (Γ.set i (.xc a cls d)) (Γ'.set i (.xc a cls d)) S WF (b₀ :: suite) es) :
    VS X Γ Γ' S W (.Try body [.ExceptHandler (some (.Name x np)) (some n) (b₀ :: suite) pos'] [] [] pos) (sTry i ws cs eb es) :=
  psImp (L2N.ps_try_as hs hf hN hi hln hc tk (tb := fun W1 => trS X Γ Γ' { S with As := As1 } (liftW X.K X.mg W1) eb) (ts := fun a cls d => trS X (Γ.set i (.xc a cls d)) (Γ'.set i (.xc a cls d)) S WF es) (fun W1 pn xe t p => hb W1 pn xe t p) (fun a oe cls d pn hz hf => hsu a oe cls d pn hz hf)) fun D σ H ⟨ρ, F, r, q⟩ => by
    have hb1 := hb0
    unfold tryB at hb1
    simp only [Bool.and_eq_true, List.all_eq_true, decide_eq_true_eq, List.contains_iff_mem] at hb1
    have hA : ∀ j ∈ As1, j ∈ S.As := fun j hj => (hb1.1.1.2 j hj).2
    have hiA : i ∈ S.As := hb1.1.2
    have hiΓ' : i < Γ'.length := by
      rcases Nat.lt_or_ge i Γ'.length with q | q
      · exact q
      · rw [List.getElem?_eq_none q] at hg; cases hg
    refine ⟨ρ, F, r, ?_⟩
    unfold sTry at q
    cases he : eb ρ with
    | bad => rw [he] at q; exact q.elim
    | ok fl => rw [he] at q; exact okS.as hA q
    | exn y =>
      rw [he] at q
      dsimp only at q
      split at q
      · rename_i hy
        intro σ' H' F' O' e k sub cls d xr
        obtain ⟨C, g1, g2, _⟩ := id xr
        subst g2
        refine ⟨true, hcs y.cls (by simpa using hy) C g1, fun _ a ha => ?_, fun z => Bool.noConfusion z⟩
        obtain ⟨r1, e1, k1⟩ := try_rel (a := a) r hb0 e k sub xr
        refine ⟨_, F', r1, ?_⟩
        cases hs : es ((wipeE ρ ws).set i (some (.exc y.cls y.fs))) with
        | bad => rw [hs] at q; exact q.elim
        | exn z => rw [hs] at q; exact q.elim
        | ok fl =>
          rw [hs] at q
          cases fl with
          | next ρ' =>
            intro σ2 H2 F2 e2 k2 r2
            obtain ⟨r3, e3⟩ := try_end hiΓ' hg r2
            exact q _ H2 F2 ((e1.trans e2).trans e3) ((k1.trans k2).trans (Keep.set hiA)) r3
          | ret d ρ' =>
            intro v σ2 H2 F2 Γr e2 r2 hi2 rv
            exact q v σ2 H2 F2 Γr (e1.trans e2) r2 hi2 (rv.evo e1)
          | brk ρ' => exact q.elim
          | cont ρ' => exact q.elim
      · exact q.elim
end
end VL

set_option Elab.async false
set_option linter.all false
set_option maxRecDepth 100000
/-! VL16: within an except suite: fields, isinstance, calls. -/
namespace PySem.W
open PySem PySem.Spec PySem.Calls PyProof.Rows
section
variable {prog : Program} {w : World} {A : Around} {E : Value → Shared → Prop} {s : Shared} {K : Frag} {x D : Addr} {ox : Obj} {od : Option Obj}
theorem vl_findObj {C : Addr} {name : Str} {a g : Value} (hc : (clsIn K C).isSome = true) (ha : findIn K (.ref C) name = some (some a)) (hg : specialIn K a "__get__" = some (some g)) (ht : takesIn K a = some true) : findObj K C od name = some (.bind g a) := by
  obtain ⟨cd, hc⟩ := Option.isSome_iff_exists.mp hc
  unfold findObj
  rw [hc, Option.bind_some, ha, Option.bind_some]
  simp [hg, ht]
theorem vl_classE {Q : Option Value → Shared → Prop} (hga : findIn K (.ref D) "__getattribute__" = some (some (.builtin "BaseException.__getattribute__"))) (hgt : findIn K (.ref D) "__getattr__" = some none) (hsub : subIn K (.ref D) (.type "BaseException") = some true)
    (hdct : hasDictIn K D = true) (ha : findIn K (.ref D) "__class__" = some (some (.builtin "object.__class__")))
    (hn : specialIn K (.builtin "object.__class__") "__get__" = some (some (.builtin "getset_descriptor.__get__"))) (htk : takesIn K (.builtin "object.__class__") = some true) (hm : mroIn K D (.type "object") = some true)
    (X : K.In s.heap) (I : InstAt s.heap x ox D od) (h : Q (some (.ref D)) { s with toks := s.toks + 1 }) : wpAny (model prog w) A (getAttr? (.ref x) "__class__") Q E s := by
  have hf : findObj K D od "__class__" = some (.bind (.builtin "getset_descriptor.__get__") (.builtin "object.__class__")) := vl_findObj (by obtain ⟨cd, hc, _⟩ := any_some hdct; rw [hc]; rfl) ha hn htk
  obtain ⟨hp, g, d, t, os⟩ := s
  have L0 := I.type (M := model prog w)
  have L1 := looks_findIn (M := model prog w) X hga
  have L2 := looks_findIn (M := model prog w) X hgt
  have L3 := looks_find (M := model prog w) X I hf
  have sub : Looks (model prog w) hp (isInstance (.ref x) (.type "BaseException")) true := L0.andThen (looks_subIn X hsub)
  have hx0 : (false && onTheHeap (Value.builtin "BaseException.__getattribute__")) = false := rfl
  have hx2 : (Value.builtin "BaseException.__getattribute__" == Value.builtin "object.__getattribute__") = false := by decide +kernel
  have hx1 : (onTheHeap (Value.ref D) && Value.builtin "BaseException.__getattribute__" == Value.builtin "object.__getattribute__") = false := by rw [hx2]; rfl
  unfold getAttr? getAttrBy? getAttrBy
  refine wpAny_bind (wpAny_mkText (wpAny_bind (wpAny_attempt (wpAny_holding (wpAny_bind (L0.at (wpAny_bind (L1.at ?_))))))))
  show wpAny _ _ (if (onTheHeap (Value.ref D) && Value.builtin "BaseException.__getattribute__" == Value.builtin "object.__getattribute__") = true then _ else _) _ _ _
  rw [hx1, if_neg Bool.false_ne_true]
  unfold getAttrByItsOwn hookBefore
  refine wpAny_bind ?_
  rw [if_pos (show onTheHeap (Value.ref D) = true from rfl)]
  refine L2.at ?_
  refine wpAny_bind (wpAny_attempt (wpAny_holding ?_))
  unfold callGetattribute
  rw [hx0, if_neg Bool.false_ne_true]
  unfold boundAndCalled
  rw [PySem.F.excAttr_ValueError.ga.bind (.ref x)]
  refine wpAny_bind (wpAny_pure ?_)
  show wpAny _ _ (call (.builtin "BaseException.__getattribute__") [.ref x, .str "__class__" t]) _ _ _
  refine wpAny_call (codeAny_call_builtin PySem.F.excAttr_ValueError.ga.plain PySem.F.entry_bexc_ga ?_)
  refine @check_slot (model prog w) _ _ ⟨hp, g, d, t + 1, os⟩ "BaseException.__getattribute__" "BaseException" "__getattribute__" (.ref x) [.str "__class__" t] [] _ (by decide +kernel) (by decide +kernel) sub (PySem.F.args_bexc_ga (.ref x) (.str "__class__" t)) ?_
  unfold Builtin.«object.__getattribute__»
  refine wpAny_bind (wpAny_of_eq (a := ((Value.ref x : Value), [Value.str "__class__" t])) (by first | rfl | (simp only [slotArgs]; rfl)) ?_)
  refine wpAny_bind (wpAny_pure (wpAny_bind (L0.at (wpAny_bind (L3.at ?_)))))
  show wpAny _ _ (holding [Value.builtin "object.__class__"] (call (.builtin "getset_descriptor.__get__") [.builtin "object.__class__", .ref x, .ref D]) >>= ret) _ _ _
  refine wpAny_bind (wpAny_holding (wpAny_call (class_get (s := ⟨hp, g, d, t + 1, os⟩) (ox := ox) (od := od) X I hm ?_)))
  refine wpAny_pure ?_
  show wpAny _ _ (handedOut (.ref D)) _ _ _
  rw [handedOut_of (v := .ref D) rfl]
  first
    | exact wpAny_pure (wpAny_pure h)
    | exact wpAny_pure h
    | exact wpAny_pure (wpAny_bind (wpAny_pure (wpAny_pure h)))
theorem vl_kitx (hga : findIn K (.ref D) "__getattribute__" = some (some (.builtin "BaseException.__getattribute__"))) (hgt : findIn K (.ref D) "__getattr__" = some none) (hsub : subIn K (.ref D) (.type "BaseException") = some true) (hdct : hasDictIn K D = true) (ha : findIn K (.ref D) "__class__" = some (some (.builtin "object.__class__")))
    (hn : specialIn K (.builtin "object.__class__") "__get__" = some (some (.builtin "getset_descriptor.__get__"))) (htk : takesIn K (.builtin "object.__class__") = some true) (hm : mroIn K D (.type "object") = some true) :
    KitX K (.ref x) (.ref D) (fun h => ∃ od, InstAt h x ox D od) where
  ty := fun _ _ _ ⟨_, I⟩ => I.type
  it := fun _ _ X _ => by
    obtain ⟨cdD, hcD, _⟩ := any_some hdct
    unfold clsIn at hcD
    split at hcD
    · rename_i c' d' cd' sl' ho
      intro A' Q' E' s' k q
      unfold isType loadHead
      exact wpAny_bind (wpAny_loadPart (k _ _ (X _ _ ho)) (wpAny_pure q))
    · cases hcD
  ne := fun h tp dd its n sl X htp => by
    obtain ⟨cdD, hcD, _⟩ := any_some hdct
    refine Bool.eq_false_iff.mpr fun q => ?_
    have e : D = tp := Value.ref.inj (beq_iff_eq.mp q)
    subst e
    unfold clsIn at hcD
    split at hcD
    · rename_i c' d' cd' sl' ho
      have z := (X _ _ ho).symm.trans htp
      cases z
    · cases hcD
  ca := fun X ⟨_, I⟩ k => vl_classE hga hgt hsub hdct ha hn htk hm X I k
end
end PySem.W
namespace VL
open PySem PySem.Spec PyProof.Rows L2

/-! ### fields -/
def lookF (f : String) : List (String × D) → Option D
  | [] => none
  | p :: r => if Str.ofString p.1 == Str.ofString f then some p.2 else lookF f r
theorem repsF_look {K : PySem.W.Frag} {mg : Str → Option Value} {F : Hp} {f : String} {y : D} : ∀ {fs : List (String × D)} {vs : List (Str × V)}, repsF K mg F fs vs → lookF f fs = some y → ∃ v, vs.lookup (Str.ofString f) = some v ∧ rep K mg F y v
  | [], _, _, h => by cases h
  | (c, d) :: ds, _, r, h => by
    simp only [repsF] at r
    obtain ⟨v, w, rfl, h1, h2⟩ := r
    simp only [lookF] at h
    split at h
    · rename_i e
      cases h
      have e' : Str.ofString f = Str.ofString c := (beq_iff_eq.mp e).symm
      exact ⟨v, by simp [List.lookup, e'], h1⟩
    · rename_i e
      obtain ⟨v', k1, k2⟩ := repsF_look h2 h
      have e' : (Str.ofString f == Str.ofString c) = false := beq_eq_false_iff_ne.mpr fun z => e (beq_iff_eq.mpr z.symm)
      exact ⟨v', by simp [List.lookup, e', k1], k2⟩
/-- what is said of the classes that may be in a suite -/
def XTab (K : PySem.W.Frag) (mg : Str → Option Value) (cs : List String) (f : Str) : Prop := ∀ nm ∈ cs, ∀ C, mg (Str.ofString nm) = some (.ref C) → XfC K C ∧ PySem.W.findIn K (.ref C) f = some none
def eXf (i : Nat) (cs : List String) (f : String) : Ev := fun ρ => (gv ρ i).bind fun d => match d with
  | .exc c fs => if cs.contains c = true then (opt (lookF f fs)).bind fun y => .ok (y, ρ) else .bad
  | _ => .bad
def tXfD (K : PySem.W.Frag) (a : Addr) (cls : Value) (d : Option Addr) (n : Str) (te : TE) : TE := fun σ H Q => te σ H fun x H1 => x = .ref a ∧ ∃ C, XfC K C ∧ PySem.W.findIn K (.ref C) n = some none ∧ cls = .ref C ∧ ∃ (dd : Addr) (fs : List (Str × V)) (v : V), d = some dd ∧ H1 dd = some (.xd fs) ∧ fs.lookup n = some v ∧ Q v H1
theorem pe_xfD {X : Cx} {a : Addr} {oe : Obj} {cls : Value} {d : Option Addr} {pn : List (Addr × Obj)} {e : Expr} {te : TE} {pos : Pos} {n : Str}
    (hz : Zc cls d oe) (hf : ∃ vs, oe.data = .fields vs) (he : PE (X.suite a ((a, oe) :: pn)) e te) (hb : attributeBase e n X.env (eval e X.env) = eval e X.env := by rfl) :
    PE (X.suite a ((a, oe) :: pn)) (.Attribute e n pos) (tXfD X.K a cls d n te) := by
  refine ⟨fun pins s σ H Q I h => ?_⟩
  refine attr_of hb (thn (he.run pins s σ H _ I h) fun u s1 hh => ?_)
  obtain ⟨x, H1, I1, rx, ex, C, T, hno, ec, dd, fs, v, ed, ea, l, q⟩ := hh
  subst ex
  obtain rfl : u = Value.ref a := rx
  subst ec
  subst ed
  obtain ⟨ha, _⟩ := I1.pin (a, oe) (List.mem_append_left _ List.mem_cons_self)
  obtain ⟨vs, hd⟩ := hf
  have hx : ObjOk X.prog X.w H1 s1.heap dd (.xd fs) := I1.hok dd _ ea
  obtain ⟨mA, hns, hr⟩ := hx
  obtain ⟨od, ho, hl⟩ := lookIn_ns hns
  obtain ⟨u, hu, ru⟩ := RelO.some_of (v := v) (o := mA n) (by rw [← l]; exact hr n)
  have J : PySem.W.InstAt s1.heap a oe C (some od) := ⟨ha, hz.1, by unfold PySem.W.notCls; rw [hd] <;> rfl, by rw [hz.2]; exact ho⟩
  exact HandSPX.exc_get I1.kIn J T.ga T.gg T.exC (PySem.W.findObj_own T.hdC hno rfl (by rw [hl, hu])) (handed_of ru) ⟨v, H1, I1.tok _, ru, q⟩
section
variable {X : Cx} {Γ Γ' : Gm} {W : WE} {a : Addr} {oe : Obj} {cls : Value} {d : Option Addr} {pn : List (Addr × Obj)} {e : Expr} {pos p2 p : Pos} {i : Nat} {cs : List String} {f : String}
theorem ve_xf (hz : L2N.Zn cls d oe) (hf : ∃ vs, oe.data = .fields vs) (hi : Γ[i]? = some (.xc a cls d)) (ht : XTab X.K X.mg cs (Str.ofString f)) (he : PE (X.suite a ((a, oe) :: pn)) e (tVar i)) (hb : attributeBase e (Str.ofString f) X.env (eval e X.env) = eval e X.env := by rfl) :
    VE (X.suite a ((a, oe) :: pn)) Γ Γ W (.Attribute e (Str.ofString f) pos) .fz (eXf i cs f) :=
  peImp (pe_xfD hz.zc hf he hb) fun σ H Q ⟨ρ, F, r, q⟩ => by
    obtain ⟨y, hy, q⟩ := gv_sat (Res.sat_bind.mp q)
    cases y <;> first | exact q.elim | skip
    rename_i c fs
    dsimp only at q
    split at q
    · rename_i hc
      obtain ⟨y, hl, q⟩ := opt_sat (Res.sat_bind.mp q)
      obtain ⟨v, w1, w2, c', fs', w3, C, x1, x2, x3⟩ := r.slot i _ _ hi hy
      cases w3
      subst w2
      obtain ⟨t1, t2⟩ := ht c (by simpa using hc) C x1
      refine ⟨_, w1, rfl, C, t1, t2, x2, ?_⟩
      rcases x3 with ⟨x3, _⟩ | ⟨dd, vs, x3, x4, x5⟩
      · subst x3; cases hl
      · obtain ⟨u, u1, u2⟩ := repsF_look x5 hl
        exact ⟨dd, vs, u, x3, r.sub _ _ x4, u1, q u H F (Evo.refl r.sub) r u2⟩
    · exact q.elim
/-! ### isinstance of the exception -/
def ITab (K : PySem.W.Frag) (mg : Str → Option Value) (tb : List (String × Bool)) (cv : Value) : Prop := ∀ p ∈ tb, ∀ C, mg (Str.ofString p.1) = some (.ref C) → ExcC K C ∧ PySem.W.kitOne K (.ref C) cv = some p.2
def lookB (c : String) : List (String × Bool) → Option Bool
  | [] => none
  | p :: r => if p.1 == c then some p.2 else lookB c r
theorem lookB_mem {c : String} {b : Bool} : ∀ {tb : List (String × Bool)}, lookB c tb = some b → (c, b) ∈ tb
  | [], h => by cases h
  | (k, v) :: r, h => by
    simp only [lookB] at h
    split at h
    · rename_i e
      have e' : k = c := by simpa using e
      cases h; subst e'; exact List.mem_cons_self
    · exact List.mem_cons_of_mem _ (lookB_mem h)
def eIsE (i : Nat) (tb : List (String × Bool)) : Ev := fun ρ => (gv ρ i).bind fun d => match d with
  | .exc c _ => (opt (lookB c tb)).bind fun b => .ok (.bl b, ρ)
  | _ => .bad
def rIsD (K : PySem.W.Frag) (a : Addr) (cls : Value) (d : Option Addr) : List V → Hp → VK → Prop := fun xs H Q => ∃ (c : V) (cv : Value) (b : Bool) (D : Addr), xs = [.ref a, c] ∧ (∀ u, RelV c u → u = cv) ∧ ExcC K D ∧ cls = .ref D ∧ (d = none ∨ ∃ dd fs, d = some dd ∧ H dd = some (.xd fs)) ∧ PySem.W.kitOne K (.ref D) cv = some b ∧ Q (.bl b) H
theorem call_isD (hz : Zc cls d oe) (hf : ∃ vs, oe.data = .fields vs) : CallR (X.suite a ((a, oe) :: pn)) (.builtin "isinstance") (rIsD X.K a cls d) := by
  intro pins s σ H xs us Q I r h
  obtain ⟨c, cv, b, D, rfl, hcv, C, ec, hd, e, q⟩ := h
  subst ec
  cases r with
  | cons rx rr =>
    cases rr with
    | cons rt rr =>
      cases rr
      cases rx
      have ec := hcv _ rt
      subst ec
      obtain ⟨hget, _⟩ := I.pin (a, oe) (List.mem_append.mpr (.inl List.mem_cons_self))
      obtain ⟨vs, hv⟩ := hf
      have J : ∃ od, PySem.W.InstAt s.heap a oe D od := by
        rcases hd with hd | ⟨dd, fs, hd, ho⟩
        · subst hd
          obtain ⟨oc, od, oda, osl⟩ := oe
          obtain ⟨h1, h2⟩ := hz
          dsimp only at h1 h2 hv
          subst h1 h2 hv
          exact ⟨none, hget, rfl, rfl, trivial⟩
        · subst hd
          have hx : ObjOk X.prog X.w H s.heap dd (.xd fs) := I.hok dd _ ho
          obtain ⟨mA, hns, hr⟩ := hx
          obtain ⟨od, ho, hl⟩ := lookIn_ns hns
          exact ⟨some od, hget, hz.1, by unfold PySem.W.notCls; rw [hv] <;> rfl, by rw [hz.2]; exact ho⟩
      exact PySem.W.kia_one (PySem.W.vl_kitx C.hg C.hk C.hs C.hd C.ha C.hn C.ht C.hm) I.kIn J e (fun z => nomatch z) fun tk => ⟨.bl b, H, I.kept (t' := tk) fun _ _ z => z, rfl, q⟩
theorem ve_isE {x : Str} {b : Expr} {c : V} {cv : Value} {tb : List (String × Bool)} (hz : L2N.Zn cls d oe) (hf : ∃ vs, oe.data = .fields vs) (hi : Γ[i]? = some (.xc a cls d)) (ht : ITab X.K X.mg tb cv) (hcv : ∀ u, RelV c u → u = cv) 
    (hp : PE (X.suite a ((a, oe) :: pn)) (.Call (.Name x p) [e, b] [] pos) (tCB (rIsD X.K a cls d) (tCons (tVar i) (tCons (tC c) tNil)))) :
    VE (X.suite a ((a, oe) :: pn)) Γ Γ W (.Call (.Name x p) [e, b] [] pos) .fz (eIsE i tb) :=
  peImp hp fun σ H Q ⟨ρ, F, r, q⟩ => by
    obtain ⟨y, hy, q⟩ := gv_sat (Res.sat_bind.mp q)
    cases y <;> first | exact q.elim | skip
    rename_i c' fs
    dsimp only at q
    obtain ⟨bb, hl, q⟩ := opt_sat (Res.sat_bind.mp q)
    obtain ⟨v, w1, w2, c'', fs', w3, C, x1, x2, x3⟩ := r.slot i _ _ hi hy
    cases w3
    subst w2
    obtain ⟨t1, t2⟩ := ht _ (lookB_mem hl) C x1
    refine ⟨_, w1, c, cv, bb, C, rfl, hcv, t1, x2, ?_, t2, q _ H F (Evo.refl r.sub) r rfl⟩
    rcases x3 with ⟨_, x3⟩ | ⟨dd, vs, x3, x4, x5⟩
    · exact .inl x3
    · exact .inr ⟨dd, vs, x3, r.sub _ _ x4⟩
end
open L2H (Hot1 RoomH cxH FnH fn_ofH HotC roomH_mark pe_callH)
theorem fn_okH {P : Program} {w : World} {K : PySem.W.Frag} {mg : Str → Option Value} {base : Heap} {x qual : Str} {st : Stmt} {f : Addr} {fd : FuncData} {N ps : List Str} {k : Nat} {pms : List PM} {rm : Md} {eb : Es} {As : List Nat} {EX : XW}
    (Fn : Fun K x qual st f fd) (S : FnScope N ps (defScope st)) (hp : pms.length = ps.length) (hN : pms.length ≤ N.length)
    (hb : ∀ (cdv : Value) (A : Around) (outer : List PySem.Env) (s : Shared) (H : Hp) (vs : List V) (E : XK) (pp : Addr × Obj), Hot1 A pp → RoomH k (A.deeper (envOfC qual (defScope st) s.heap.objs.size f cdv)) → vs.length = pms.length → (∀ (i : Nat) (v : V), pms[i]? = some PM.io → vs[i]? = some v → ∃ q, v = .ref q) →
      ∃ Γ', (∀ i q, (i, q) ∈ io0 0 pms vs → Γ'[i]? = some (.io q)) ∧
        VSs (cxH CX0 P w K mg base N qual (defScope st) f cdv A outer s H E pp) (g0 pms vs ++ List.replicate (N.length - pms.length) .fz) Γ' ⟨[], As, io0 0 pms vs, rm⟩ WF (defBody st) eb)
    (hr : rm = .own ∨ rm = .fz) :
    FnH P w K mg base CX0 (k + 1) f fd ps (spFn K mg pms rm (fun ds => noexn (fnEv pms N.length eb ds)) EX) := by
  obtain ⟨oc, od, kV, doc, pm, an, cdv, ct, osl, rfl, lk, hcd⟩ := Fn.ex
  refine fn_ofH lk hcd S (fun vs H Q E h => h.1.trans hp) fun A outer s H vs Q E pp hot hroom h => ?_
  obtain ⟨hl, F, ds, sm, pa, nd, q⟩ := h
  have isref : ∀ (i : Nat) (v : V), pms[i]? = some PM.io → vs[i]? = some v → ∃ q, v = .ref q := fun i v h1 h2 => by
    obtain ⟨v', d', k1, k2, k3⟩ := pa.get h1
    rw [h2] at k1; cases k1
    obtain ⟨q, e, _⟩ := k3
    exact ⟨q, e⟩
  obtain ⟨Γ', hΓ, hv⟩ := hb cdv A outer s H vs E pp hot hroom hl isref
  refine ⟨_, hv, ds.map some ++ List.replicate (N.length - ds.length) none, F, ?_⟩
  obtain ⟨r0, o0⟩ := rel_start (N := N) sm pa nd hN
  refine ⟨r0, Res.sat_imp (Res.sat_bind.mp (noexn_sat (E' := fun _ => False) q)) (fun fl _ q => ?_) fun _ h => h.elim⟩
  have back : ∀ {ρ' : Env} {σ' : St} {H' F' : Hp} {Γr : Gm} {outs : List D}, Rel K mg Γr ρ' σ' H' F' → (∀ i q, (i, q) ∈ io0 0 pms vs → Γr[i]? = some (.io q)) → outs.length = (ioIx 0 pms).length → (∀ (k i : Nat) (d : D), (ioIx 0 pms)[k]? = some i → outs[k]? = some d → ρ'[i]? = some (some d)) → IoBack K mg (ioAd pms vs) outs H' F' := fun {ρ' σ' H' F' Γr outs} r hi h1 h2 =>
    ⟨by rw [h1]; exact ioIx_length isref hl, fun k p d e1 e2 => by
      obtain ⟨i, g1, g2⟩ := io0_at (n := 0) isref hl e1
      obtain ⟨v, a1, a2, a3, a4⟩ := r.slot i _ d (hi i p g2) (h2 k i d g1 e2)
      subst a2
      exact ⟨a3, a4⟩⟩
  have fe : ∀ {O' : Ft} {H' F' : Hp}, Evo (Own (g0 pms vs ++ List.replicate (N.length - pms.length) .fz) (ds.map some ++ List.replicate (N.length - ds.length) none) (L2.start N vs)) H F O' H' F' → FEvo (ioAd pms vs) H F H' F' := fun e => ⟨e.sf, e.sh, fun p o k1 k2 k3 => e.kp p o k1 k2 fun z => k3 (o0 p z), e.dom⟩
  cases fl with
  | next ρ' =>
    obtain ⟨outs, q, h1, h2⟩ := outs_sat (Res.sat_bind.mp q)
    exact fun σ' H' F' e k r => q .non H' F' (fe e) (back r hΓ h1 h2) (by
      rcases hr with rfl | rfl
      · exact ⟨by unfold Cell; rw [if_neg (show ¬ cellD .non = true from fun h => nomatch h)]; simp only [rep], fun c => by cases c⟩
      · simp only [RetF, rep])
  | brk ρ' => exact q.elim
  | cont ρ' => exact q.elim
  | ret d ρ' =>
    obtain ⟨outs, q, h1, h2⟩ := outs_sat (Res.sat_bind.mp q)
    refine fun v σ' H' F' Γr e r hi rv => q v H' F' (fe e) (back r hi h1 h2) ?_
    rcases hr with rfl | rfl
    · refine ⟨rv.1, fun c p z => ?_⟩
      rcases rv.2 c p z with k1 | ⟨k1, k2⟩
      · exact k1
      · obtain ⟨j, hj⟩ := List.getElem?_of_mem (o0 p k1)
        obtain ⟨i', g1, g2⟩ := io0_at (n := 0) isref hl hj
        exact absurd rfl (k2 i' p g2)
    · exact rv
theorem hot_suite {X : Cx} {a : Addr} {oe : Obj} {cls : Value} {d : Option Addr} {pn : List (Addr × Obj)} (hz : L2N.Zn cls d oe) (hf : ∃ vs, oe.data = .fields vs) : HotC (X.suite a ((a, oe) :: pn)) := by
  obtain ⟨vs, h⟩ := hf
  exact ⟨(a, oe), ⟨rfl, vs, h, hz.2.2 vs h⟩, List.mem_cons_self⟩
section
variable {X : Cx} {Γ Γ' : Gm} {W : WE} {e : Expr} {es : List Expr} {p pos : Pos} {rm : Md} {as : List Arg} {x : Str} {pms : List PM} {fe : Fe}
theorem pass0S {X : Cx} {E : XK} : ∀ σ, PassesAt CX0 X σ ((fun _ => E) σ) := fun _ _ _ _ _ _ _ h => h.elim
theorem ve_callH (hrm : rm = .own ∨ rm = .fz) (ha : VA X Γ Γ' W (e :: es) as) (hok : okA (ioSl as) pms as = true) (hnd : (ioSl as).Nodup) (hm : mutAll Γ' (ioSl as) = true)
    (hp : ∀ {t : TA}, PA X (e :: es) t → PE X (.Call (.Name x p) (e :: es) [] pos) (tCallS (spFn X.K X.mg pms rm fe EX0) (fun _ => E0) t)) :
    VE X Γ Γ' W (.Call (.Name x p) (e :: es) [] pos) rm (eFn pms fe as) :=
  peImp (hp ha) fun σ H Q h => call_fn_tr (W := W) (EX := EX0) (E := E0) (σ := σ) hok hnd (mutAll_ok hm) (fun _ _ _ _ _ _ _ _ _ _ => trivial) h hrm
end
end VL

set_option Elab.async false
set_option linter.all false
set_option maxRecDepth 100000
/-! VL17: short forms for the printed derivations (exceptions); two names at once. -/
namespace VL
open PySem PySem.Spec PyProof.Rows L2

theorem takesN0 {X : Cx} : L2N.Takes X (fun _ _ _ _ => False) := fun _ _ x => by
  obtain ⟨_, _, _, _, _, _, _, _, _, _, _, _, _, _, _, _, z⟩ := x
  exact z.elim
section
variable {mg : Str → Option Value} {Pr : Addr → Prop} {nm : String} {C0 : Addr} {cs : List String}
theorem tab_nil : ∀ nm' ∈ ([] : List String), ∀ C, mg (Str.ofString nm') = some (.ref C) → Pr C := fun _ h => by cases h
theorem tab_cons (g : mg (Str.ofString nm) = some (.ref C0)) (h : Pr C0) (r : ∀ nm' ∈ cs, ∀ C, mg (Str.ofString nm') = some (.ref C) → Pr C) : ∀ nm' ∈ nm :: cs, ∀ C, mg (Str.ofString nm') = some (.ref C) → Pr C := fun nm' hm C hC => by
  rcases List.mem_cons.mp hm with e | e
  · subst e
    rw [g] at hC; cases hC
    exact h
  · exact r nm' e C hC
variable {Q : Addr → Bool → Prop} {b : Bool} {tb : List (String × Bool)}
theorem itab_nil : ∀ p ∈ ([] : List (String × Bool)), ∀ C, mg (Str.ofString p.1) = some (.ref C) → Q C p.2 := fun _ h => by cases h
theorem itab_cons (g : mg (Str.ofString nm) = some (.ref C0)) (h : Q C0 b) (r : ∀ p ∈ tb, ∀ C, mg (Str.ofString p.1) = some (.ref C) → Q C p.2) : ∀ p ∈ (nm, b) :: tb, ∀ C, mg (Str.ofString p.1) = some (.ref C) → Q C p.2 := fun p hm C hC => by
  rcases List.mem_cons.mp hm with e | e
  · subst e
    rw [g] at hC; cases hC
    exact h
  · exact r p e C hC
end
section
variable {K : PySem.W.Frag} {mg : Str → Option Value} {nm : String} {C0 : Addr} {cs : List String} {b : Bool} {tb : List (String × Bool)} {cv : Value} {f : Str}
theorem itabI_nil : ITab K mg [] cv := itab_nil (Q := fun C b => ExcC K C ∧ PySem.W.kitOne K (.ref C) cv = some b)
theorem itabI_cons (g : mg (Str.ofString nm) = some (.ref C0)) (h : ExcC K C0) (h2 : PySem.W.kitOne K (.ref C0) cv = some b) (r : ITab K mg tb cv) : ITab K mg ((nm, b) :: tb) cv := itab_cons (Q := fun C b => ExcC K C ∧ PySem.W.kitOne K (.ref C) cv = some b) g ⟨h, h2⟩ r
theorem xtab_nil : XTab K mg [] f := tab_nil (Pr := fun C => XfC K C ∧ PySem.W.findIn K (.ref C) f = some none)
theorem xtab_cons (g : mg (Str.ofString nm) = some (.ref C0)) (h : XfC K C0) (h2 : PySem.W.findIn K (.ref C0) f = some none) (r : XTab K mg cs f) : XTab K mg (nm :: cs) f := tab_cons (Pr := fun C => XfC K C ∧ PySem.W.findIn K (.ref C) f = some none) g ⟨h, h2⟩ r
end
/-- the __init__ of a class's text -/
def clsInit : Stmt → Stmt
  | .ClassDef (body := b) .. => b.getD 0 (.Pass ⟨0, 0, 0, 0⟩)
  | s => s
/-! ### facts of classes -/
section
variable {K : PySem.W.Frag} {C D : Addr}
theorem kit_sub {b : Bool} (hd : PySem.W.hasDictIn K C = true) (ht : PySem.W.typeIn K (.ref C) = some (.type "type")) (hs : PySem.W.subIn K (.ref D) (.ref C) = some b) (n : b = true ∨ D ≠ C) : PySem.W.kitOne K (.ref D) (.ref C) = some b := by
  unfold PySem.W.kitOne
  by_cases e : (Value.ref D == Value.ref C) = true
  · rw [if_pos e]
    rcases n with n | n
    · rw [n]
    · exact absurd (Value.ref.inj (beq_iff_eq.mp e)) n
  · rw [if_neg e]
    unfold PySem.W.kitCls
    obtain ⟨cd, hc, _⟩ := PySem.W.any_some hd
    have e2 : ((PySem.W.clsIn K C).isSome && PySem.W.typeIn K (.ref C) == some (.type "type")) = true := by rw [hc, ht] <;> rfl
    dsimp only
    rw [if_pos e2]
    exact hs
theorem kit_ve (hs : PySem.W.subIn K (.ref D) (.type "ValueError") = some true) : PySem.W.kitOne K (.ref D) (.type "ValueError") = some true := by
  unfold PySem.W.kitOne
  rw [if_neg (by intro h; exact absurd (beq_iff_eq.mp h) (by intro z; cases z))]
  unfold PySem.W.kitCls
  dsimp only
  rw [if_pos (by decide +kernel)]
  exact hs
end
/-! ### a tuple of texts of the top -/
theorem ve_globT {X : Cx} {Γ : Gm} {W : WE} {pos : Pos} {x : Str} {ss : List (List Nat)} (hg : Gl X x) (h : ∃ (a : Addr) (o : Obj) (its : Array Value) (n : Nat), X.mg x = some (.ref a) ∧ X.K.lookup a = some o ∧ o.cls = .type "tuple" ∧ o.data = .seq its n ∧ its.size ≤ sizeLine ∧ Vals (ss.map fun l => V.str ⟨l.toArray⟩) its.toList)
    (hd : (x == ("__debug__" : Str)) = false := by decide) : VE X Γ Γ W (.Name x pos) .fz (eC (.tup (ss.map D.str))) := by
  obtain ⟨a, o, its, n, hm, h1, h2, h3, h4, h5⟩ := h
  refine ve_const (v := .ref a) (pe_glob hg hm rfl hd) fun F => ?_
  simp only [rep]
  refine ⟨a, _, rfl, .inr ⟨o, its, n, h1, h2, h3, h4, h5⟩, ?_⟩
  clear h5
  induction ss with
  | nil => exact reps_nil
  | cons l r ih => exact reps_cons (by simp only [rep]) ih
theorem globT_val {w z : Str} {t : Tok} (h : w = z) : RelV (V.str z) (.str w t) := ⟨t, by rw [h]⟩
/-! ### two names at once -/
def sPar (i j : Nat) (as : List Arg) : Es := fun ρ => (Arg.runs as ρ).bind fun p => (Arg.fins as p.1 p.2).bind fun ds => match ds with
  | [x, y] => .ok (.next ((p.2.set i (some x)).set j (some y)))
  | _ => .bad
section
variable {X : Cx} {Γ Γ' Γ1 : Gm} {S : SC} {W : WE} {a b : Expr} {as : List Arg} {pos : Pos}
theorem vs_par {i j : Nat} {x y : Str} {px py pt : Pos} {kt k2 pt2} (hc : X.calm = true) (hN : X.N.Nodup) (hi : X.N[i]? = some x) (hj : X.N[j]? = some y) (hij : i ≠ j)
    (hx : X.env.scope.names.lookup x = some .local) (hy : X.env.scope.names.lookup y = some .local) (ha : VA X Γ Γ1 W [a, b] as) (hv : allVal as = true) (li : i < Γ1.length) (lj : j < Γ1.length) (mi : i ∈ S.As) (mj : j ∈ S.As)
    (hw : swappedStores [.Tuple [.Name x px, .Name y py] kt pt] (.Tuple [a, b] k2 pt2) X.env = pure (some [x, y]) := by rfl)
    (hs : swapsWithSole [.Tuple [.Name x px, .Name y py] kt pt] (.Tuple [a, b] k2 pt2) pos.line X.env = pure false := by rfl) :
    VS X Γ ((Γ1.set i .fz).set j .fz) S W (.Assign [.Tuple [.Name x px, .Name y py] kt pt] (.Tuple [a, b] k2 pt2) pos) (sPar i j as) :=
  psImp (ps_par hc hN hi hj hij hx hy ha hw hs) fun D σ H ⟨ρ, F, r, q⟩ => ⟨ρ, F, r, Res.sat_imp (Res.sat_bind.mp q) (fun z _ q vs H1 F1 e1 r1 b1 => by
    obtain ⟨ds, hds, q⟩ := fins_sat q
    have rr := (b1.fin r1 hds).reps hv
    match ds, rr, q with
    | [d1, d2], rr, q =>
      simp only [reps] at rr
      obtain ⟨v, _, e1', k1, w, _, e2', k2', e3'⟩ := rr
      subst e3'; subst e2'; subst e1'
      refine ⟨v, w, rfl, ?_⟩
      obtain ⟨r2, e2⟩ := r1.setM (m := .fz) li e1 r.brwThere k1 (.inl rfl)
      have b2 : ∀ j' p, (Own (Γ1.set i .fz) (z.2.set i (some d1)) (σ.set i (some v))).b j' p → ∃ o, H1 p = some o := r2.brwThere
      have e3 : Evo (Own Γ ρ σ) H F (Own (Γ1.set i .fz) (z.2.set i (some d1)) (σ.set i (some v))) H1 F1 := e2
      obtain ⟨r4, e4⟩ := r2.setM (m := .fz) (by rw [List.length_set]; exact lj) e3 r.brwThere k2' (.inl rfl)
      exact q _ H1 F1 e4 ((Keep.set mi).trans (Keep.set mj)) r4) fun _ h => h.ex⟩
end
end VL

set_option Elab.async false
set_option linter.all false
set_option maxRecDepth 100000
/-! VL18: how evaluators are reckoned out (plain). -/
namespace VL
open PySem PySem.Spec PyProof.Rows L2

section
variable {d x y : D} {ρ : Env} {n : Nat} {α β : Type}
@[simp] theorem gv_z : gv (some d :: ρ) 0 = .ok d := rfl
@[simp] theorem gv_n : gv (none :: ρ) 0 = .bad := rfl
@[simp] theorem gv_s {x : Option D} : gv (x :: ρ) (n + 1) = gv ρ n := rfl
@[simp] theorem optS (a : α) : opt (some a) = .ok a := rfl
@[simp] theorem optN : opt (none : Option α) = .bad := rfl
theorem bind_ite {c : Prop} [Decidable c] {a b : Res α} {f : α → Res β} : (if c then a else b).bind f = if c then a.bind f else b.bind f := by split <;> rfl
theorem opt_ite {c : Prop} [Decidable c] {a b : Option α} : opt (if c then a else b) = if c then opt a else opt b := by split <;> rfl
@[simp] theorem noexn_bad : noexn (.bad : Res α) = .bad := rfl
@[simp] theorem Opd.run_slot (i : Nat) : (Opd.slot i).run ρ = (gv ρ i).bind fun _ => .ok (none, ρ) := rfl
@[simp] theorem Opd.run_ex (f : Ev) : (Opd.ex f).run ρ = (f ρ).bind fun r => .ok (some r.1, r.2) := rfl
@[simp] theorem Opd.fin_slot (i : Nat) (o : Option D) : (Opd.slot i).fin o ρ = gv ρ i := rfl
@[simp] theorem Opd.fin_ex (f : Ev) : (Opd.ex f).fin (some d) ρ = .ok d := rfl
@[simp] theorem Arg.run_bor (o : Opd) : (Arg.bor o).run ρ = o.run ρ := rfl
@[simp] theorem Arg.run_val (f : Ev) : (Arg.val f).run ρ = (f ρ).bind fun r => .ok (some r.1, r.2) := rfl
@[simp] theorem Arg.run_io (i : Nat) : (Arg.io i).run ρ = (gv ρ i).bind fun _ => .ok (none, ρ) := rfl
@[simp] theorem Arg.fin_bor (o : Opd) (od : Option D) : (Arg.bor o).fin od ρ = o.fin od ρ := rfl
@[simp] theorem Arg.fin_val (f : Ev) (od : Option D) : (Arg.val f).fin od ρ = opt od := rfl
@[simp] theorem Arg.fin_io (i : Nat) (od : Option D) : (Arg.io i).fin od ρ = gv ρ i := rfl
@[simp] theorem Arg.runs_nil : Arg.runs [] ρ = .ok ([], ρ) := rfl
@[simp] theorem Arg.runs_cons (a : Arg) (as : List Arg) : Arg.runs (a :: as) ρ = (a.run ρ).bind fun p => (Arg.runs as p.2).bind fun q => .ok (p.1 :: q.1, q.2) := rfl
@[simp] theorem Arg.fins_nil (l : List (Option D)) : Arg.fins [] l ρ = .ok [] := rfl
@[simp] theorem Arg.fins_cons (a : Arg) (as : List Arg) (od : Option D) (ods : List (Option D)) : Arg.fins (a :: as) (od :: ods) ρ = (a.fin od ρ).bind fun d => (Arg.fins as ods ρ).bind fun ds => .ok (d :: ds) := rfl
@[simp] theorem eC_ap : eC d ρ = .ok (d, ρ) := rfl
@[simp] theorem eVar_ap (i : Nat) : eVar i ρ = (gv ρ i).bind fun d => .ok (d, ρ) := rfl
@[simp] theorem eVarB_ap (i : Nat) : eVarB i ρ = (gv ρ i).bind fun d => if cellD d = true then .bad else .ok (d, ρ) := rfl
@[simp] theorem eTy_ap : eTy ρ = .ok (.non, ρ) := rfl
@[simp] theorem eBin_ap (f : D → D → Option D) (oa ob : Opd) : eBin f oa ob ρ = (oa.run ρ).bind fun p => (ob.run p.2).bind fun s => (oa.fin p.1 s.2).bind fun dx => (ob.fin s.1 s.2).bind fun dy => (opt (f dx dy)).bind fun d => .ok (d, s.2) := rfl
@[simp] theorem eCall_ap (f : List D → Option D) (as : List Arg) : eCall f as ρ = (Arg.runs as ρ).bind fun p => (Arg.fins as p.1 p.2).bind fun ds => (opt (f ds)).bind fun d => .ok (d, p.2) := rfl
@[simp] theorem eTup_ap (as : List Arg) : eTup as ρ = (Arg.runs as ρ).bind fun p => (Arg.fins as p.1 p.2).bind fun ds => (opt (if ds.length ≤ 16777216 then some (.tup ds) else none)).bind fun d => .ok (d, p.2) := rfl
@[simp] theorem eLst_ap (as : List Arg) : eLst as ρ = (Arg.runs as ρ).bind fun p => (Arg.fins as p.1 p.2).bind fun ds => (opt (if ds.length ≤ 16777216 then some (.lst ds) else none)).bind fun d => .ok (d, p.2) := rfl
@[simp] theorem eNeg_ap (a : Ev) : eNeg a ρ = (a ρ).bind fun r => match r.1 with | .int i => .ok (.int (-i), r.2) | _ => .bad := rfl
@[simp] theorem eIf_ap (t : Et) (a b : Ev) : eIf t a b ρ = (t ρ).bind fun r => if r.1 = true then a r.2 else b r.2 := rfl
@[simp] theorem eTB_ap (a : Ev) : eTB a ρ = (a ρ).bind fun r => match r.1 with | .bl b => .ok (b, r.2) | _ => .bad := rfl
@[simp] theorem eTru_ap (o : Opd) : eTru o ρ = (o.run ρ).bind fun p => (o.fin p.1 p.2).bind fun d => (opt (truD d)).bind fun b => .ok (b, p.2) := rfl
@[simp] theorem eAnd_ap (a b : Et) : eAnd a b ρ = (a ρ).bind fun r => if r.1 = true then b r.2 else .ok (false, r.2) := rfl
@[simp] theorem eOr_ap (a b : Et) : eOr a b ρ = (a ρ).bind fun r => if r.1 = true then .ok (true, r.2) else b r.2 := rfl
@[simp] theorem eNot_ap (a : Et) : eNot a ρ = (a ρ).bind fun r => .ok (!r.1, r.2) := rfl
@[simp] theorem eAndV_ap (a b : Ev) : eAndV a b ρ = (a ρ).bind fun r => match r.1 with | .bl true => b r.2 | .bl false => .ok (.bl false, r.2) | _ => .bad := rfl
@[simp] theorem eOrV_ap (a b : Ev) : eOrV a b ρ = (a ρ).bind fun r => match r.1 with | .bl true => .ok (.bl true, r.2) | .bl false => b r.2 | _ => .bad := rfl
@[simp] theorem eNotV_ap (a : Ev) : eNotV a ρ = (a ρ).bind fun r => match r.1 with | .bl b => .ok (.bl (!b), r.2) | _ => .bad := rfl
@[simp] theorem eNotT_ap (o : Opd) : eNotT o ρ = (o.run ρ).bind fun p => (o.fin p.1 p.2).bind fun d => (opt (truD d)).bind fun b => .ok (.bl (!b), p.2) := rfl
@[simp] theorem runI_n : runI none ρ = .ok (none, ρ) := rfl
@[simp] theorem runI_s (f : Ev) : runI (some f) ρ = (f ρ).bind fun r => match r.1 with | .int i => .ok (some i, r.2) | _ => .bad := rfl
@[simp] theorem eSl_ap (oa : Opd) (lo hi : Option Ev) : eSl oa lo hi ρ = (oa.run ρ).bind fun p => (runI lo p.2).bind fun q => (runI hi q.2).bind fun r => (oa.fin p.1 r.2).bind fun da => (opt (dSlice da q.1 r.1)).bind fun d => .ok (d, r.2) := rfl
@[simp] theorem eChain_ap (f f' : D → D → Option D) (oa ob oc : Opd) : eChain f f' oa ob oc ρ = (oa.run ρ).bind fun p => (ob.run p.2).bind fun s => (oa.fin p.1 s.2).bind fun dx => (ob.fin s.1 s.2).bind fun dy => (opt (f dx dy)).bind fun d => match d with
  | .bl true => (oc.run s.2).bind fun t => (ob.fin s.1 t.2).bind fun dy => (oc.fin t.1 t.2).bind fun dz => (opt (f' dy dz)).bind fun d => .ok (d, t.2)
  | .bl false => .ok (.bl false, s.2)
  | _ => .bad := rfl
@[simp] theorem tYesE_ap : tYesE ρ = .ok (true, ρ) := rfl
@[simp] theorem eRng_ap (as : List Arg) : eRng as ρ = (Arg.runs as ρ).bind fun p => (Arg.fins as p.1 p.2).bind fun ds => (opt (rngOf ds)).bind fun l => .ok (l, p.2) := rfl
@[simp] theorem eIt_ap (f : Ev) : eIt f ρ = (f ρ).bind fun r => (opt (itD r.1)).bind fun l => .ok (l, r.2) := rfl
@[simp] theorem eEnum_ap (f : Ev) : eEnum f ρ = (f ρ).bind fun r => match r.1 with | .lst l => .ok (enumD 0 l, r.2) | .str l => .ok (enumD 0 (l.map fun c => .str [c]), r.2) | _ => .bad := rfl
/-! statements -/
@[simp] theorem sNil_ap : sNil ρ = .ok (.next ρ) := rfl
@[simp] theorem sPass_ap : sPass ρ = .ok (.next ρ) := rfl
@[simp] theorem sBrk_ap : sBrk ρ = .ok (.brk ρ) := rfl
@[simp] theorem sCont_ap : sCont ρ = .ok (.cont ρ) := rfl
@[simp] theorem sSeq_ap (a b : Es) : sSeq a b ρ = (a ρ).bind fun fl => match fl with | .next ρ' => b ρ' | x => .ok x := rfl
@[simp] theorem sExpr_ap (f : Ev) : sExpr f ρ = (f ρ).bind fun r => .ok (.next r.2) := rfl
@[simp] theorem sRet_ap (f : Ev) : sRet f ρ = (f ρ).bind fun r => .ok (.ret r.1 r.2) := rfl
@[simp] theorem sRetN_ap : sRetN ρ = .ok (.ret .non ρ) := rfl
@[simp] theorem sIf_ap (t : Et) (a b : Es) : sIf t a b ρ = (t ρ).bind fun r => if r.1 = true then a r.2 else b r.2 := rfl
@[simp] theorem sSet_ap (i : Nat) (f : Ev) : sSet i f ρ = (f ρ).bind fun r => .ok (.next (r.2.set i (some r.1))) := rfl
@[simp] theorem sAug_ap (i : Nat) (f : D → D → Option D) (fe : Ev) : sAug i f fe ρ = (gv ρ i).bind fun x => (fe ρ).bind fun r => (opt (f x r.1)).bind fun d => .ok (.next (r.2.set i (some d))) := rfl
@[simp] theorem sAsg_ap (t : Tg) (f : Ev) : sAsg t f ρ = (f ρ).bind fun r => (opt (bindT t r.1 r.2)).bind fun ρ' => .ok (.next ρ') := rfl
@[simp] theorem sFor_ap (it : Eit) (tg : Tg) (body : Es) : sFor it tg body ρ = (it ρ).bind fun p => forL tg body p.1 p.2 := rfl
@[simp] theorem sPar_ap (i j : Nat) (as : List Arg) : sPar i j as ρ = (Arg.runs as ρ).bind fun p => (Arg.fins as p.1 p.2).bind fun ds => match ds with | [x, y] => .ok (.next ((p.2.set i (some x)).set j (some y))) | _ => .bad := rfl
@[simp] theorem sRaise_ap (c : String) (fs : List String) (as : List Arg) : sRaise c fs as ρ = (Arg.runs as ρ).bind fun p => (Arg.fins as p.1 p.2).bind fun ds => if ds.length = fs.length then .exn ⟨c, (fs.zip ds).reverse⟩ else .bad := rfl
@[simp] theorem bindT_name (i : Nat) : bindT (.name i) d ρ = some (ρ.set i (some d)) := rfl
@[simp] theorem bindT_tup (l : List Tg) (ds : List D) : bindT (.tup l) (.tup ds) ρ = bindTs l ds ρ := rfl
@[simp] theorem bindTs_nil : bindTs [] [] ρ = some ρ := rfl
@[simp] theorem bindTs_cons (t : Tg) (ts : List Tg) (ds : List D) : bindTs (t :: ts) (d :: ds) ρ = (bindT t d ρ).bind fun ρ' => bindTs ts ds ρ' := rfl
/-! data -/
variable {i j k : Int} {l a b : List D} {u v : List Nat} {p q : Bool}
@[simp] theorem dAdd_int : dAdd (.int i) (.int j) = some (.int (i + j)) := rfl
@[simp] theorem dAdd_lst (h : a.length + b.length ≤ 16777216) : dAdd (.lst a) (.lst b) = some (.lst (a ++ b)) := if_pos h
@[simp] theorem dAdd_tup (h : a.length + b.length ≤ 16777216) : dAdd (.tup a) (.tup b) = some (.tup (a ++ b)) := if_pos h
@[simp] theorem dAdd_str (h : u.length + v.length ≤ 16777216) : dAdd (.str u) (.str v) = some (.str (u ++ v)) := if_pos h
@[simp] theorem dSub_int : dSub (.int i) (.int j) = some (.int (i - j)) := rfl
theorem dMul_int : dMul (.int i) (.int j) = if cMulB i j = true then some (.int (i * j)) else none := rfl
@[simp] theorem dMod_int (h : j ≠ 0) : dMod (.int i) (.int j) = some (.int (i.fmod j)) := by
  unfold dMod dInt2 cModB; simp [h]
@[simp] theorem dFdiv_int (h : j ≠ 0) (h2 : j.natAbs < 1073741824) : dFdiv (.int i) (.int j) = some (.int (i.fdiv j)) := by
  unfold dFdiv dInt2 cDivB; simp [h, h2]
@[simp] theorem dLt_int : dLt (.int i) (.int j) = some (.bl (decide (i < j))) := rfl
@[simp] theorem dLe_int : dLe (.int i) (.int j) = some (.bl (decide (i ≤ j))) := rfl
@[simp] theorem dGt_int : dGt (.int i) (.int j) = some (.bl (decide (j < i))) := rfl
@[simp] theorem dGe_int : dGe (.int i) (.int j) = some (.bl (decide (j ≤ i))) := rfl
@[simp] theorem dEq_int : dEq (.int i) (.int j) = some (.bl (i == j)) := by unfold dEq; simp [scalD, eqD]
@[simp] theorem dNe_int : dNe (.int i) (.int j) = some (.bl (i != j)) := (if_pos (Or.inl rfl)).trans (by simp only [eqD]; rfl)
@[simp] theorem dEq_str : dEq (.str u) (.str v) = some (.bl (u == v)) := by unfold dEq; simp [scalD, eqD]
@[simp] theorem dNe_str : dNe (.str u) (.str v) = some (.bl (u != v)) := (if_pos (Or.inl rfl)).trans (by simp only [eqD]; rfl)
@[simp] theorem dEq_bl : dEq (.bl p) (.bl q) = some (.bl (p == q)) := by unfold dEq; simp [scalD, eqD]
@[simp] theorem dNe_bl : dNe (.bl p) (.bl q) = some (.bl (p != q)) := (if_pos (Or.inl rfl)).trans (by simp only [eqD]; rfl)
@[simp] theorem dIx_lst : dIx (.lst l) (.int i) = atI l i := rfl
@[simp] theorem dIx_tup : dIx (.tup l) (.int i) = atI l i := rfl
@[simp] theorem dIsN_non : dIsN d .non = some (.bl (isNonD d)) := rfl
@[simp] theorem dNotN_non : dNotN d .non = some (.bl (!isNonD d)) := rfl
@[simp] theorem isNonD_non : isNonD .non = true := rfl
@[simp] theorem isNonD_int : isNonD (.int i) = false := rfl
@[simp] theorem isNonD_lst : isNonD (.lst l) = false := rfl
@[simp] theorem isNonD_tup : isNonD (.tup l) = false := rfl
@[simp] theorem isNonD_str : isNonD (.str u) = false := rfl
@[simp] theorem isNonD_bl : isNonD (.bl p) = false := rfl
@[simp] theorem truD_bl : truD (.bl p) = some p := rfl
@[simp] theorem truD_int : truD (.int i) = some (i != 0) := rfl
@[simp] theorem truD_lst : truD (.lst l) = some (!l.isEmpty) := rfl
@[simp] theorem fLen_lst : fLen [.lst l] = some (.int l.length) := rfl
@[simp] theorem fLen_tup : fLen [.tup l] = some (.int l.length) := rfl
@[simp] theorem fLen_str (h : u.length ≤ 16777216) : fLen [.str u] = some (.int u.length) := if_pos h
@[simp] theorem fInt_int : fInt [.int i] = some (.int i) := rfl
@[simp] theorem fInt_bl : fInt [.bl p] = some (.int (if p then 1 else 0)) := rfl
@[simp] theorem fAbs_int : fAbs [.int i] = some (.int (if i < 0 then -i else i)) := rfl
@[simp] theorem fList_lst : fList [.lst l] = some (.lst l) := rfl
@[simp] theorem fList_tup : fList [.tup l] = some (.lst l) := rfl
@[simp] theorem fList_scr (s : List Int) : fList [.scr s] = some (.lst (s.map .int)) := rfl
@[simp] theorem fTuple_lst : fTuple [.lst l] = some (.tup l) := rfl
@[simp] theorem fTuple_tup : fTuple [.tup l] = some (.tup l) := rfl
@[simp] theorem fMax2_int : fMax2 [.int i, .int j] = some (.int (if j > i then j else i)) := rfl
@[simp] theorem fMin2_int : fMin2 [.int i, .int j] = some (.int (if j < i then j else i)) := rfl
@[simp] theorem itD_lst : itD (.lst l) = some l := rfl
@[simp] theorem itD_tup : itD (.tup l) = some l := rfl
@[simp] theorem itD_str : itD (.str u) = some (u.map fun c => .str [c]) := rfl
theorem at_nat {n : Nat} {x : α} {xs : List α} (h : xs[n]? = some x) : atI xs (n : Int) = some x := by
  have hl : n < xs.length := by
    rcases Nat.lt_or_ge n xs.length with q | q
    · exact q
    · rw [List.getElem?_eq_none q] at h; cases h
  unfold atI ixN
  rw [if_pos (by omega), if_pos (by omega)]
  simpa using h
end
/-! ### defs -/
section
variable {α : Type}
@[simp] theorem fIsi_two {T : String} {d e : D} : fIsi T [d, e] = (tyD d).map fun t => .bl (isiB t T) := rfl
end
end VL

set_option Elab.async false
set_option linter.all false
set_option maxRecDepth 100000
/-! VL19: the draws. -/
namespace VL
open PySem PySem.Spec PyProof.Rows L2
def drS1 : Es := (sIf (eAnd (eTB (eBin dEq (.ex (eBin dIx (.slot 0) (.ex (eC (.int 2))))) (.ex (eC (.int 0))))) (eTB (eBin dLt (.ex (eBin dIx (.slot 0) (.ex (eC (.int 1))))) (.ex (eCall fLen [.bor (.ex (eBin dIx (.slot 0) (.ex (eC (.int 0)))))]))))) (sSeq (sSet 2 (eCall fAbs [.bor (.ex (eCall fInt [.bor (.ex (eBin dIx (.ex (eBin dIx (.slot 0) (.ex (eC (.int 0))))) (.ex (eBin dIx (.slot 0) (.ex (eC (.int 1)))))))]))])) (sSeq (sAugIx 0 (fun i j => i + j) (eC (.int 1)) (eC (.int 1))) (sIf (eTB (eBin dGe (.slot 2) (.ex (eBin dPow (.ex (eC (.int 10))) (.ex (eC (.int 18))))))) (sSetIx 0 (eC (.int 2)) (eVar 2)) (sSetIx 0 (eC (.int 3)) (eBin dMod (.ex (eCall fInt [.bor (.ex (eBin dAdd (.ex (eBin dAdd (.ex (eBin dMul (.ex (eBin dIx (.slot 0) (.ex (eC (.int 3))))) (.ex (eC (.int 48271))))) (.ex (eBin dMul (.slot 2) (.ex (eC (.int 69621))))))) (.ex (eBin dIx (.slot 0) (.ex (eC (.int 1)))))))])) (.ex (eC (.int 2147483647)))))))) sNil)
def drS2 : Es := (sIf (eTB (eBin dGt (.ex (eBin dIx (.slot 0) (.ex (eC (.int 2))))) (.ex (eC (.int 0))))) (sSeq (sSet 3 (eBin dMod (.ex (eCall fInt [.bor (.ex (eBin dIx (.slot 0) (.ex (eC (.int 2)))))])) (.slot 1))) (sSeq (sSetIx 0 (eC (.int 2)) (eBin dFdiv (.ex (eBin dIx (.slot 0) (.ex (eC (.int 2))))) (.slot 1))) (sRet (eVar 3)))) sNil)
def drS3 : Es := (sSeq (sSetIx 0 (eC (.int 3)) (eBin dMod (.ex (eCall fInt [.bor (.ex (eBin dAdd (.ex (eBin dMul (.ex (eBin dIx (.slot 0) (.ex (eC (.int 3))))) (.ex (eC (.int 16807))))) (.ex (eC (.int 12345)))))])) (.ex (eC (.int 2147483647))))) (sSeq (sSet 4 (eBin dMod (.ex (eCall fInt [.bor (.ex (eBin dAdd (.ex (eBin dMul (.ex (eBin dIx (.slot 0) (.ex (eC (.int 3))))) (.ex (eBin dIx (.slot 0) (.ex (eC (.int 3))))))) (.ex (eBin dIx (.slot 0) (.ex (eC (.int 3)))))))])) (.ex (eC (.int 2147483629))))) (sRet (eBin dMod (.ex (eBin dFdiv (.slot 4) (.ex (eC (.int 11))))) (.slot 1)))))
def bDraw : Es := sSeq drS1 (sSeq drS2 drS3)
def vDraw : Fe := fun ds => noexn (fnEv [.io, .brw] 5 bDraw ds)
/-- the feed of a law -/
def fd (l : List Int) (i a b : Int) : D := .lst [.lst (l.map .int), .int i, .int a, .int b]
def Feed (d : D) : Prop := ∃ (l : List Int) (i a b : Int), d = fd l i a b ∧ 0 ≤ i ∧ 0 ≤ a ∧ 0 ≤ b ∧ b < 2147483647
@[simp] theorem at0 {x : D} {l : List D} : L2.atI (x :: l) 0 = some x := at_nat (n := 0) rfl
@[simp] theorem at1 {x y : D} {l : List D} : L2.atI (x :: y :: l) 1 = some y := at_nat (n := 1) rfl
@[simp] theorem at2 {x y z : D} {l : List D} : L2.atI (x :: y :: z :: l) 2 = some z := at_nat (n := 2) rfl
@[simp] theorem at3 {x y z w : D} {l : List D} : L2.atI (x :: y :: z :: w :: l) 3 = some w := at_nat (n := 3) rfl
theorem pow18 : dPow (.int 10) (.int 18) = some (.int 1000000000000000000) := by
  show (if cPowB 10 18 = true then some (D.int (10 ^ (18 : Int).toNat)) else none) = _
  rw [if_pos (by decide)]
  rfl
theorem fmod_lo {a m : Int} (h : 0 < m) : 0 ≤ a.fmod m ∧ a.fmod m < m := ⟨Int.fmod_nonneg_of_pos a h, Int.fmod_lt_of_pos a h⟩
theorem fdiv_lo {a m : Int} (h : 0 < m) (ha : 0 ≤ a) : 0 ≤ a.fdiv m := Int.fdiv_nonneg ha (Int.le_of_lt h)
theorem dr1 {l : List Int} {i a b m : Int} (hi : 0 ≤ i) (ha : 0 ≤ a) (hb : 0 ≤ b) (hb2 : b < 2147483647) :
    ∃ i' a' b' x, drS1 [some (fd l i a b), some (.int m), none, none, none] = .ok (.next [some (fd l i' a' b'), some (.int m), x, none, none]) ∧ 0 ≤ i' ∧ 0 ≤ a' ∧ 0 ≤ b' ∧ b' < 2147483647 := by
  by_cases h : a = 0 ∧ i < l.length
  · obtain ⟨h1, h2⟩ := h
    subst h1
    obtain ⟨n, rfl⟩ : ∃ n : Nat, i = n := ⟨i.toNat, by omega⟩
    have hn : n < l.length := by omega
    have hx : L2.atI (l.map D.int) (n : Int) = some (.int l[n]) := at_nat (by rw [List.getElem?_map, List.getElem?_eq_getElem hn]; rfl)
    by_cases hc : 1000000000000000000 ≤ (if l[n] < 0 then -l[n] else l[n])
    · refine ⟨n + 1, (if l[n] < 0 then -l[n] else l[n]), b, some (.int (if l[n] < 0 then -l[n] else l[n])), ?_, by omega, by omega, hb, hb2⟩
      have h2' : n < l.length := hn
      simp [drS1, fd, h2', hx, sAugIx, sSetIx, L2.ixN, pow18, hc]
    · have e : (b * 48271 + (if l[n] < 0 then -l[n] else l[n]) * 69621 + (n + 1)).fmod 2147483647 = (b * 48271 + (if l[n] < 0 then -l[n] else l[n]) * 69621 + (n + 1)).fmod 2147483647 := rfl
      obtain ⟨g1, g2⟩ := fmod_lo (a := b * 48271 + (if l[n] < 0 then -l[n] else l[n]) * 69621 + (n + 1)) (m := 2147483647) (by omega)
      refine ⟨n + 1, 0, _, some (.int (if l[n] < 0 then -l[n] else l[n])), ?_, by omega, by omega, g1, g2⟩
      have m1 : dMul (.int b) (.int 48271) = some (.int (b * 48271)) := by rw [dMul_int, if_pos (by unfold cMulB; simp)]
      have m2 : dMul (.int (if l[n] < 0 then -l[n] else l[n])) (.int 69621) = some (.int ((if l[n] < 0 then -l[n] else l[n]) * 69621)) := by rw [dMul_int, if_pos (by unfold cMulB; simp)]
      simp [drS1, fd, hn, hx, sAugIx, sSetIx, L2.ixN, pow18, hc, m1, m2]
  · refine ⟨i, a, b, none, ?_, hi, ha, hb, hb2⟩
    by_cases h1 : a = 0
    · have h2 : ¬ i < l.length := fun z => h ⟨h1, z⟩
      subst h1
      simp [drS1, fd, h2]
    · have e : (a == 0) = false := by simpa using h1
      simp [drS1, fd, e]
theorem draw_ok {d : D} {m : Int} (h : Feed d) (h0 : 0 < m) (h1 : m < 1073741824) : ∃ r d', vDraw [d, .int m] = .ok (.int r, [d']) ∧ 0 ≤ r ∧ r < m ∧ Feed d' := by
  obtain ⟨l, i, a, b, rfl, hi, ha, hb, hb2⟩ := h
  obtain ⟨i', a', b', x, e, hi', ha', hb', hb2'⟩ := dr1 (l := l) (m := m) hi ha hb hb2
  have e2 : m ≠ 0 := by omega
  have e3 : m.natAbs < 1073741824 := by omega
  have st : vDraw [fd l i a b, .int m] = noexn ((sSeq drS2 drS3 [some (fd l i' a' b'), some (.int m), x, none, none]).bind fun fl => match fl with
    | .ret d ρ => (outsOf (ioIx 0 [PM.io, PM.brw]) ρ).bind fun os => .ok (d, os)
    | .next ρ => (outsOf (ioIx 0 [PM.io, PM.brw]) ρ).bind fun os => .ok (.non, os)
    | _ => .bad) := by
    unfold vDraw fnEv bDraw
    show noexn ((sSeq drS1 (sSeq drS2 drS3) [some (fd l i a b), some (.int m), none, none, none]).bind _) = _
    rw [sSeq_ap drS1, e]
    rfl
  rw [st]
  by_cases h : 0 < a'
  · obtain ⟨g1, g2⟩ := fmod_lo (a := a') h0
    refine ⟨a'.fmod m, fd l i' (a'.fdiv m) b', ?_, g1, g2, l, i', _, b', rfl, hi', fdiv_lo h0 ha', hb', hb2'⟩
    simp [drS2, drS3, fd, h, e2, e3, sSetIx, L2.ixN, outsOf, ioIx]
  · obtain ⟨b1, b2⟩ := fmod_lo (a := b' * 16807 + 12345) (m := 2147483647) (by omega)
    obtain ⟨B, hB⟩ : ∃ B, B = (b' * 16807 + 12345).fmod 2147483647 := ⟨_, rfl⟩
    rw [← hB] at b1 b2
    obtain ⟨g1, g2⟩ := fmod_lo (a := ((B * B + B).fmod 2147483629).fdiv 11) h0
    refine ⟨_, fd l i' a' B, ?_, g1, g2, l, i', a', B, rfl, hi', ha', b1, b2⟩
    have m1 : dMul (.int b') (.int 16807) = some (.int (b' * 16807)) := by rw [dMul_int, if_pos (by unfold cMulB; simp)]
    have m2 : dMul (.int B) (.int B) = some (.int (B * B)) := by rw [dMul_int, if_pos (by unfold cMulB; exact decide_eq_true (.inl (by omega)))]
    simp [drS2, drS3, fd, h, e2, e3, sSetIx, L2.ixN, outsOf, ioIx, m1, ← hB, m2]
end VL

set_option Elab.async false
set_option linter.all false
set_option maxRecDepth 100000
/-! VL20: loops, comprehensions, cuts (plain). -/
namespace VL
open PySem PySem.Spec PyProof.Rows L2

@[simp] theorem eFn_ap (pms : List PM) (f : Fe) (as : List Arg) (ρ : Env) : eFn pms f as ρ = (Arg.runs as ρ).bind fun p => (Arg.fins as p.1 p.2).bind fun ds => if ioCells pms ds = true then (f ds).bind fun r => .ok (r.1, setOuts (ioSl as) r.2 p.2) else .bad := rfl
@[simp] theorem eFn0_ap (f : Fe) (ρ : Env) : eFn0 f ρ = (f []).bind fun r => .ok (r.1, ρ) := rfl
@[simp] theorem ioCells_io {ms : List PM} {d : D} {ds : List D} : ioCells (.io :: ms) (d :: ds) = (cellD d && ioCells ms ds) := rfl
@[simp] theorem ioCells_fz {ms : List PM} {d : D} {ds : List D} : ioCells (.fz :: ms) (d :: ds) = ioCells ms ds := rfl
@[simp] theorem ioCells_brw {ms : List PM} {d : D} {ds : List D} : ioCells (.brw :: ms) (d :: ds) = ioCells ms ds := rfl
@[simp] theorem ioCells_nil : ioCells [] [] = true := rfl
@[simp] theorem ioSl_io {i : Nat} {as : List Arg} : ioSl (.io i :: as) = i :: ioSl as := rfl
@[simp] theorem ioSl_bor {o : Opd} {as : List Arg} : ioSl (.bor o :: as) = ioSl as := rfl
@[simp] theorem ioSl_val {f : Ev} {as : List Arg} : ioSl (.val f :: as) = ioSl as := rfl
@[simp] theorem ioSl_nil : ioSl [] = [] := rfl
@[simp] theorem setOuts_cons {i : Nat} {is : List Nat} {d : D} {ds : List D} {ρ : Env} : setOuts (i :: is) (d :: ds) ρ = (setOuts is ds ρ).set i (some d) := rfl
@[simp] theorem setOuts_nil {ds : List D} {ρ : Env} : setOuts [] ds ρ = ρ := by cases ds <;> rfl
@[simp] theorem cellD_lst {l : List D} : cellD (.lst l) = true := rfl
theorem Feed.cell {d : D} (h : Feed d) : cellD d = true := by obtain ⟨l, i, a, b, rfl, _⟩ := h; rfl
theorem Feed.isL {d : D} (h : Feed d) : isLst d = true := by obtain ⟨l, i, a, b, rfl, _⟩ := h; rfl
@[simp] theorem outsOf_nil {ρ : Env} : outsOf [] ρ = .ok [] := rfl
@[simp] theorem outsOf_cons {ρ : Env} {i : Nat} {is : List Nat} : outsOf (i :: is) ρ = (gv ρ i).bind fun d => (outsOf is ρ).bind fun ds => .ok (d :: ds) := rfl
@[simp] theorem wipeE_nil {ρ : Env} : wipeE ρ [] = ρ := rfl
@[simp] theorem wipeE_cons {ρ : Env} {v : Nat} {vs : List Nat} : wipeE ρ (v :: vs) = (wipeE ρ vs).set v none := rfl
@[simp] theorem backE_nil {ρ1 ρ2 : Env} : backE ρ1 ρ2 [] = ρ2 := rfl
@[simp] theorem backE_cons {ρ1 ρ2 : Env} {v : Nat} {vs : List Nat} : backE ρ1 ρ2 (v :: vs) = (backE ρ1 ρ2 vs).set v ((ρ1[v]?).getD none) := rfl
@[simp] theorem ioIx_io {i : Nat} {ms : List PM} : ioIx i (.io :: ms) = i :: ioIx (i + 1) ms := rfl
@[simp] theorem ioIx_fz {i : Nat} {ms : List PM} : ioIx i (.fz :: ms) = ioIx (i + 1) ms := rfl
@[simp] theorem ioIx_brw {i : Nat} {ms : List PM} : ioIx i (.brw :: ms) = ioIx (i + 1) ms := rfl
@[simp] theorem ioIx_nil {i : Nat} : ioIx i [] = [] := rfl
@[simp] theorem eMut_ap (i : Nat) (f : List D → List D → Option (List D × D)) (as : List Arg) (ρ : Env) : eMut i f as ρ = (gv ρ i).bind fun d0 => if isLst d0 = true then (Arg.runs as ρ).bind fun p => (Arg.fins as p.1 p.2).bind fun ds => (gv p.2 i).bind fun d => match d with
  | .lst l => (opt (f l ds)).bind fun r => .ok (r.2, p.2.set i (some (.lst r.1)))
  | _ => .bad
  else .bad := by
  first | rfl | (unfold eMut; rfl)
@[simp] theorem isLst_lst {l : List D} : isLst (.lst l) = true := rfl
@[simp] theorem mAppend_one {l : List D} {d : D} (h : l.length < 16777216) : mAppend l [d] = some (l ++ [d], .non) := if_pos h

/-! ### loops -/
theorem forL_inv {tg : Tg} {body : Es} {P : List D → Env → Prop} (step : ∀ d ds ρ, P (d :: ds) ρ → ∃ ρ1, bindT tg d ρ = some ρ1 ∧ ∃ ρ2, (body ρ1 = .ok (.next ρ2) ∨ body ρ1 = .ok (.cont ρ2)) ∧ P ds ρ2) :
    ∀ (items : List D) (ρ : Env), P items ρ → ∃ ρ', forL tg body items ρ = .ok (.next ρ') ∧ P [] ρ'
  | [], ρ, h => ⟨ρ, rfl, h⟩
  | d :: ds, ρ, h => by
    obtain ⟨ρ1, e1, ρ2, e2, h2⟩ := step d ds ρ h
    obtain ⟨ρ', e3, h3⟩ := forL_inv step ds ρ2 h2
    refine ⟨ρ', ?_, h3⟩
    unfold forL
    rw [e1]
    rcases e2 with e2 | e2 <;> (simp only [optS, Res.bind_ok, e2]; exact e3)
/-- a walk that ends at the first item of a kind; ks: the items' keys -/
theorem forL_keys {σ : Type} {tg : Tg} {body : Es} {g : Nat → D} {c : Nat → Bool} {ρf : σ → Env} {E : Nat → Res Fl} :
    ∀ (ks : List Nat) (s : σ), (∀ k ∈ ks, (∃ x, E k = .exn x) ∨ ∃ d ρ, E k = .ok (.ret d ρ)) → (∀ k ∈ ks, ∀ s, ∃ ρ1, bindT tg (g k) (ρf s) = some ρ1 ∧ (c k = true → body ρ1 = E k) ∧ (c k = false → ∃ s', body ρ1 = .ok (.next (ρf s')))) →
    (∃ k, ks.find? c = some k ∧ forL tg body (ks.map g) (ρf s) = E k) ∨ (ks.find? c = none ∧ ∃ s', forL tg body (ks.map g) (ρf s) = .ok (.next (ρf s')))
  | [], s, _, _ => .inr ⟨rfl, s, rfl⟩
  | k :: ks, s, hE, step => by
    obtain ⟨ρ1, e1, h1, h2⟩ := step k List.mem_cons_self s
    cases hc : c k with
    | true =>
      refine .inl ⟨k, by simp [hc], ?_⟩
      have e : forL tg body ((k :: ks).map g) (ρf s) = body ρ1 := by
        show (opt (bindT tg (g k) (ρf s))).bind _ = _
        rw [e1]
        simp only [optS, Res.bind_ok]
        rw [h1 hc]
        rcases hE k List.mem_cons_self with ⟨x, e⟩ | ⟨d, ρ, e⟩ <;> rw [e] <;> rfl
      rw [e, h1 hc]
    | false =>
      obtain ⟨s', e2⟩ := h2 hc
      have e : forL tg body ((k :: ks).map g) (ρf s) = forL tg body (ks.map g) (ρf s') := by
        show (opt (bindT tg (g k) (ρf s))).bind _ = _
        rw [e1]
        simp only [optS, Res.bind_ok, e2]
      rw [e]
      rcases forL_keys ks s' (fun k' h => hE k' (List.mem_cons_of_mem _ h)) (fun k' h => step k' (List.mem_cons_of_mem _ h)) with ⟨k', g1, g2⟩ | ⟨g1, g2⟩
      · exact .inl ⟨k', by simp [hc, g1], g2⟩
      · exact .inr ⟨by simp [hc, g1], g2⟩
theorem enumD_map (l : List D) : enumD 0 l = (List.range l.length).map fun k : Nat => .tup [.int (k : Nat), (l[k]?).getD .non] := by
  apply List.ext_getElem?
  intro i
  rw [enumD_get]
  by_cases h : i < l.length
  · rw [List.getElem?_eq_getElem h, List.getElem?_map, List.getElem?_range h]
    simp [List.getD, List.getElem?_eq_getElem h]
  · rw [List.getElem?_eq_none (by omega), List.getElem?_map, List.getElem?_eq_none (by simp; omega)]
    rfl
/-- a walk that ends at the first item of a kind -/
def Exits (r : Res Fl) : Prop := (∃ d ρ, r = .ok (.ret d ρ)) ∨ ∃ x, r = .exn x
theorem forL_find {tg : Tg} {body : Es} {I : Env → Prop} {c : D → Bool} {X : D → Res Fl → Prop} :
    ∀ (items : List D) (ρ : Env), (∀ d ∈ items, ∀ ρ, I ρ → ∃ ρ1, bindT tg d ρ = some ρ1 ∧ ((c d = true ∧ X d (body ρ1) ∧ Exits (body ρ1)) ∨ (c d = false ∧ ∃ ρ2, body ρ1 = .ok (.next ρ2) ∧ I ρ2))) → I ρ →
    (∃ d, items.find? c = some d ∧ X d (forL tg body items ρ) ∧ Exits (forL tg body items ρ)) ∨ (items.find? c = none ∧ ∃ ρ', forL tg body items ρ = .ok (.next ρ') ∧ I ρ')
  | [], ρ, _, h => .inr ⟨rfl, ρ, rfl, h⟩
  | d :: ds, ρ, step, h => by
    obtain ⟨ρ1, e1, ⟨k1, k2, k3⟩ | ⟨k1, ρ2, e2, h2⟩⟩ := step d List.mem_cons_self ρ h
    · have e : forL tg body (d :: ds) ρ = body ρ1 := by
        unfold forL
        rw [e1]
        simp only [optS, Res.bind_ok]
        rcases k3 with ⟨y, ρ', e⟩ | ⟨x, e⟩ <;> rw [e] <;> rfl
      rw [e]
      exact .inl ⟨d, by simp [k1], k2, k3⟩
    · have e : forL tg body (d :: ds) ρ = forL tg body ds ρ2 := by
        show (opt (bindT tg d ρ)).bind _ = _
        rw [e1]
        simp only [optS, Res.bind_ok, e2]
      rw [e]
      rcases forL_find ds ρ2 (fun d' hd => step d' (List.mem_cons_of_mem _ hd)) h2 with ⟨d', g1, g2⟩ | ⟨g1, g2⟩
      · exact .inl ⟨d', by simp [k1, g1], g2⟩
      · exact .inr ⟨by simp [k1, g1], g2⟩
/-! ### comprehensions -/
theorem lcGo_all {vs : List Nat} {tg : Tg} {elt : Ev} {I : Env → Prop} {R : D → Prop} :
    ∀ (items acc : List D) (ρ : Env), (∀ d ∈ items, ∀ ρ, I ρ → ∃ ρ1, bindT tg d ρ = some ρ1 ∧ ∃ y ρ3, elt ρ1 = .ok (y, ρ3) ∧ R y ∧ I (wipeE ρ3 vs)) → I ρ →
    ∃ out ρ', lcGo vs tg tYesE elt items acc ρ = .ok (acc ++ out, ρ') ∧ I ρ' ∧ out.length = items.length ∧ ∀ y ∈ out, R y
  | [], acc, ρ, _, h => ⟨[], ρ, by simp [lcGo], h, rfl, by simp⟩
  | d :: ds, acc, ρ, step, h => by
    obtain ⟨ρ1, e1, y, ρ3, e3, r, h3⟩ := step d List.mem_cons_self ρ h
    obtain ⟨out, ρ', e, h', hl, hr⟩ := lcGo_all ds (acc ++ [y]) _ (fun d' hd => step d' (List.mem_cons_of_mem _ hd)) h3
    refine ⟨y :: out, ρ', ?_, h', by simp [hl], ?_⟩
    · unfold lcGo
      simp only [e1, optS, Res.bind_ok, tYesE_ap, noexn_ok, if_true, e3]
      rw [e]; simp
    · intro z hz
      rcases List.mem_cons.mp hz with rfl | hz
      · exact r
      · exact hr z hz
theorem eLC_all {it : Eit} {vs : List Nat} {tg : Tg} {elt : Ev} {ρ ρ0 : Env} {items : List D} (I : Env → Prop) (R : D → Prop) (hi : it ρ = .ok (items, ρ0)) (hl : items.length ≤ 16777216) (h0 : I (wipeE ρ0 vs))
    (step : ∀ d ∈ items, ∀ ρ, I ρ → ∃ ρ1, bindT tg d ρ = some ρ1 ∧ ∃ y ρ3, elt ρ1 = .ok (y, ρ3) ∧ R y ∧ I (wipeE ρ3 vs)) :
    ∃ out ρ', eLC it vs tg tYesE elt ρ = .ok (.lst out, backE ρ0 ρ' vs) ∧ I ρ' ∧ out.length = items.length ∧ ∀ y ∈ out, R y := by
  obtain ⟨out, ρ', e, h⟩ := lcGo_all items [] _ step h0
  refine ⟨out, ρ', ?_, h⟩
  unfold eLC
  rw [hi]
  simp only [Res.bind_ok, if_pos hl, e, List.nil_append]
/-- a comprehension that leaves the environment as it is: map -/
theorem lcGo_map {vs : List Nat} {tg : Tg} {elt : Ev} {f : D → D} {ρ : Env} : ∀ (items acc : List D), (∀ d ∈ items, ∃ ρ1, bindT tg d ρ = some ρ1 ∧ ∃ ρ3, elt ρ1 = .ok (f d, ρ3) ∧ wipeE ρ3 vs = ρ) →
    lcGo vs tg tYesE elt items acc ρ = .ok (acc ++ items.map f, ρ)
  | [], acc, _ => by simp [lcGo]
  | d :: ds, acc, step => by
    obtain ⟨ρ1, e1, ρ3, e3, h3⟩ := step d List.mem_cons_self
    unfold lcGo
    simp only [e1, optS, Res.bind_ok, tYesE_ap, noexn_ok, if_true, e3, h3]
    rw [lcGo_map ds (acc ++ [f d]) fun d' hd => step d' (List.mem_cons_of_mem _ hd)]
    simp
theorem eLC_map {it : Eit} {vs : List Nat} {tg : Tg} {elt : Ev} {ρ ρ0 : Env} {items : List D} (f : D → D) (hi : it ρ = .ok (items, ρ0)) (hl : items.length ≤ 16777216)
    (step : ∀ d ∈ items, ∃ ρ1, bindT tg d (wipeE ρ0 vs) = some ρ1 ∧ ∃ ρ3, elt ρ1 = .ok (f d, ρ3) ∧ wipeE ρ3 vs = wipeE ρ0 vs) :
    eLC it vs tg tYesE elt ρ = .ok (.lst (items.map f), backE ρ0 (wipeE ρ0 vs) vs) := by
  unfold eLC
  rw [hi]
  simp only [Res.bind_ok, if_pos hl]
  rw [lcGo_map items [] step]
  simp
/-! ### cuts -/
theorem cut_to {α : Type} {l : List α} {k : Int} (h : 0 ≤ k) : cutA l none (some k) = l.take k.toNat := by
  unfold cutA HT.sIx
  simp only [Nat.sub_zero, List.drop_zero]
  rw [if_neg (by omega)]
  rw [List.take_eq_take_iff]
  omega
theorem cut_from {α : Type} {l : List α} {k : Int} (h : 0 ≤ k) : cutA l (some k) none = l.drop k.toNat := by
  unfold cutA HT.sIx
  simp only []
  rw [if_neg (by omega)]
  by_cases hk : k.toNat ≤ l.length
  · rw [Nat.min_eq_left hk, List.take_of_length_le (by simp)]
  · rw [Nat.min_eq_right (by omega), List.drop_of_length_le (Nat.le_refl _), List.drop_of_length_le (by omega)]
    simp
@[simp] theorem dSlice_lst {l : List D} {lo hi : Option Int} : dSlice (.lst l) lo hi = some (.lst (cutA l lo hi)) := rfl
@[simp] theorem dSlice_tup {l : List D} {lo hi : Option Int} : dSlice (.tup l) lo hi = some (.tup (cutA l lo hi)) := rfl
@[simp] theorem dSlice_str {l : List Nat} {lo hi : Option Int} (h : l.length ≤ 16777216) : dSlice (.str l) lo hi = some (.str (cutA l lo hi)) := if_pos h
theorem joinL_nil : ∀ ns : List (List Nat), TL.joinL [] ns = ns.flatten
  | [] => rfl
  | [x] => by simp [TL.joinL]
  | x :: y :: r => by
    have := joinL_nil (y :: r)
    simp only [TL.joinL, List.append_nil, List.flatten_cons] at this ⊢
    rw [this, List.nil_append]
theorem join1 {P : Nat → Prop} : ∀ {out : List D}, (∀ y ∈ out, ∃ c, y = .str [c] ∧ P c) → out.length ≤ 16777216 → ∃ ow : List Nat, fJoin [] [.lst out] = some (.str ow) ∧ ow.length = out.length ∧ ∀ c ∈ ow, P c := fun {out} h hl => by
  have key : ∀ {out : List D}, (∀ y ∈ out, ∃ c, y = .str [c] ∧ P c) → ∃ ow : List Nat, out = (ow.map fun c => [c]).map D.str ∧ ∀ c ∈ ow, P c := by
    intro out
    induction out with
    | nil => exact fun _ => ⟨[], rfl, by simp⟩
    | cons y r ih =>
      intro h
      obtain ⟨ow, e, k⟩ := ih fun z hz => h z (List.mem_cons_of_mem _ hz)
      obtain ⟨c, e2, k2⟩ := h y List.mem_cons_self
      exact ⟨c :: ow, by rw [e, e2]; rfl, fun z hz => (List.mem_cons.mp hz).elim (fun q => q ▸ k2) (k z)⟩
  obtain ⟨ow, e, k⟩ := key h
  subst e
  refine ⟨ow, ?_, by simp, k⟩
  unfold fJoin
  dsimp only
  rw [strsOf_map]
  simp only [Option.bind_some]
  have hs : ((ow.map fun c => [c]).map List.length).sum = ow.length := by
    clear hl k h
    induction ow with
    | nil => rfl
    | cons c r ih => simp only [List.map_cons, List.sum_cons, List.length_cons, List.length_nil] at ih ⊢; omega
  have hf : (ow.map fun c => [c]).flatten = ow := by
    clear hl k h hs
    induction ow with
    | nil => rfl
    | cons c r ih => simp only [List.map_cons, List.flatten_cons, ih]; rfl
  rw [if_pos (by rw [hs]; simp at hl ⊢; exact hl), joinL_nil, hf]
theorem rng1 {j : Int} (h : j < 4611686018427387904) (h2 : -4611686018427387904 < j) : rngOf [.int j] = some ((List.range j.toNat).map fun k => D.int (k : Nat)) := by
  unfold rngOf
  dsimp only
  rw [if_pos (rB_iff.mpr ⟨h, h2⟩)]
  simp
theorem rngLen {m : Nat} (h : m ≤ 16777216) : rngOf [.int (m : Int)] = some ((List.range m).map fun k : Nat => D.int (k : Nat)) := by
  have h2 : (m : Int) < 4611686018427387904 := by omega
  have h3 : -4611686018427387904 < (m : Int) := by omega
  have := rng1 h2 h3
  rw [Int.toNat_natCast] at this
  exact this
theorem eRng_of {a : Arg} {ρ ρ' : Env} {o : Option D} {d : D} {l : List D} (h1 : a.run ρ = .ok (o, ρ')) (h2 : a.fin o ρ' = .ok d) (h3 : rngOf [d] = some l) : eRng [a] ρ = .ok (l, ρ') := by
  have k1 : Arg.runs [a] ρ = .ok ([o], ρ') := by rw [Arg.runs_cons, h1]; rfl
  have k2 : Arg.fins [a] [o] ρ' = .ok [d] := by rw [Arg.fins_cons, h2]; rfl
  rw [eRng_ap, k1, Res.bind_ok]
  dsimp only
  rw [k2, Res.bind_ok, h3]
  rfl
theorem eRng_len {i : Nat} {ρ : Env} {l : List D} {m : Nat} (h : gv ρ i = .ok (.lst l)) (e : l.length = m) (hl : m ≤ 16777216) : eRng [.val (eCall fLen [.bor (.slot i)])] ρ = .ok ((List.range m).map fun k : Nat => D.int (k : Nat), ρ) := by
  subst e
  exact eRng_of (o := some (.int (l.length : Int))) (by simp [h]) rfl (rngLen hl)
theorem eRng_var {i : Nat} {ρ : Env} {n : Int} (h : gv ρ i = .ok (.int n)) (h1 : n < 4611686018427387904) (h2 : -4611686018427387904 < n) : eRng [.val (eVar i)] ρ = .ok ((List.range n.toNat).map fun k : Nat => D.int (k : Nat), ρ) :=
  eRng_of (o := some (.int n)) (by simp [h]) rfl (rng1 h1 h2)
theorem eRng_lit {ρ : Env} {n : Int} (h1 : n < 4611686018427387904) (h2 : -4611686018427387904 < n) : eRng [.val (eC (.int n))] ρ = .ok ((List.range n.toNat).map fun k : Nat => D.int (k : Nat), ρ) :=
  eRng_of (o := some (.int n)) rfl rfl (rng1 h1 h2)
theorem sTry_ok {i : Nat} {ws : List Nat} {cs : List String} {body suite : Es} {ρ : Env} {fl : Fl} (h : body ρ = .ok fl) : sTry i ws cs body suite ρ = .ok fl := by
  unfold sTry; rw [h]
theorem sTry_ret {i : Nat} {ws : List Nat} {cs : List String} {body suite : Es} {ρ ρ' : Env} {x : Exn} {d : D} (h : body ρ = .exn x) (hc : cs.contains x.cls = true) (hs : suite ((wipeE ρ ws).set i (some (.exc x.cls x.fs))) = .ok (.ret d ρ')) : sTry i ws cs body suite ρ = .ok (.ret d ρ') := by
  unfold sTry; rw [h]; dsimp only; rw [if_pos hc, hs]
@[simp] theorem eXf_ap (i : Nat) (cs : List String) (f : String) (ρ : Env) : eXf i cs f ρ = (gv ρ i).bind fun d => match d with
  | .exc c fs => if cs.contains c = true then (opt (lookF f fs)).bind fun y => .ok (y, ρ) else .bad
  | _ => .bad := rfl
@[simp] theorem eIsE_ap (i : Nat) (tb : List (String × Bool)) (ρ : Env) : eIsE i tb ρ = (gv ρ i).bind fun d => match d with
  | .exc c _ => (opt (lookB c tb)).bind fun b => .ok (.bl b, ρ)
  | _ => .bad := rfl
end VL
namespace VL
theorem seq_next {a b : Es} {ρ ρ' : Env} (h : a ρ = .ok (.next ρ')) : sSeq a b ρ = b ρ' := by rw [sSeq_ap, h]; rfl
theorem seq_ret {a b : Es} {ρ ρ' : Env} {d : D} (h : a ρ = .ok (.ret d ρ')) : sSeq a b ρ = .ok (.ret d ρ') := by rw [sSeq_ap, h]; rfl
theorem seq_exn {a b : Es} {ρ : Env} {x : Exn} (h : a ρ = .exn x) : sSeq a b ρ = .exn x := by rw [sSeq_ap, h]; rfl
theorem for_eq {it : Eit} {tg : Tg} {body : Es} {ρ ρ0 : Env} {l : List D} (h : it ρ = .ok (l, ρ0)) : sFor it tg body ρ = forL tg body l ρ0 := by rw [sFor_ap, h]; rfl
theorem fn_ret {pms : List PM} {n : Nat} {b : Es} {ds os : List D} {d : D} {ρ' : Env} (h : b (ds.map some ++ List.replicate (n - ds.length) none) = .ok (.ret d ρ')) (ho : outsOf (ioIx 0 pms) ρ' = .ok os) : noexn (fnEv pms n b ds) = .ok (d, os) := by
  unfold fnEv; rw [h]; simp only [Res.bind_ok, ho]; rfl
/-- a block that answers -/
def Runs (s : Es) (ρ : Env) (Q : D → Env → Prop) : Prop := ∃ d ρ', s ρ = .ok (.ret d ρ') ∧ Q d ρ'
theorem runs_seq {a b : Es} {ρ ρ' : Env} {Q : D → Env → Prop} (h : a ρ = .ok (.next ρ')) (k : Runs b ρ' Q) : Runs (sSeq a b) ρ Q := by
  obtain ⟨d, ρ2, e, q⟩ := k
  exact ⟨d, ρ2, by rw [sSeq_ap, h]; exact e, q⟩
theorem runs_for {it : Eit} {tg : Tg} {body b : Es} {ρ ρ0 : Env} {l : List D} {Q : D → Env → Prop} (h : it ρ = .ok (l, ρ0)) (k : ∃ ρ', forL tg body l ρ0 = .ok (.next ρ') ∧ Runs b ρ' Q) : Runs (sSeq (sFor it tg body) b) ρ Q := by
  obtain ⟨ρ', e, k⟩ := k
  exact runs_seq (by rw [sFor_ap, h]; exact e) k
theorem runs_ret {f : Ev} {ρ ρ' : Env} {d : D} {Q : D → Env → Prop} (h : f ρ = .ok (d, ρ')) (k : Q d ρ') : Runs (sRet f) ρ Q := ⟨d, ρ', by rw [sRet_ap, h]; rfl, k⟩
/-- a def by its block -/
theorem fn_runs {pms : List PM} {n : Nat} {b : Es} {ds : List D} {P : D → List D → Prop} (h : Runs b (ds.map some ++ List.replicate (n - ds.length) none) fun d ρ => ∃ os, outsOf (ioIx 0 pms) ρ = .ok os ∧ P d os) : ∃ d os, noexn (fnEv pms n b ds) = .ok (d, os) ∧ P d os := by
  obtain ⟨d, ρ, e, os, h1, h2⟩ := h
  exact ⟨d, os, by unfold fnEv; rw [e]; simp only [Res.bind_ok, h1]; rfl, h2⟩
end VL

set_option Elab.async false
set_option linter.all false
set_option maxRecDepth 100000
/-! VL21: a slot of one's own is lent while an expression only reads it. -/
namespace VL
open PySem PySem.Spec PyProof.Rows L2
def eLend (i : Nat) (ev : Ev) : Ev := fun ρ => (gv ρ i).bind fun d => (ev ρ).bind fun r => .ok (r.1, r.2.set i (some d))
theorem eLend_ap (i : Nat) (ev : Ev) (ρ : Env) : eLend i ev ρ = (gv ρ i).bind fun d => (ev ρ).bind fun r => .ok (r.1, r.2.set i (some d)) := rfl
section
variable {K : PySem.W.Frag} {mg : Str → Option Value} {Γ Γ' : Gm} {ρ ρ' : Env} {σ : St} {H F H' F' : Hp} {i : Nat} {d : D}
theorem RdN.less {O O' : Ft} {v : V} (r : RdN K mg O H F v d) (h : ∀ p, O'.o p → O.o p) : RdN K mg O' H F v d := by
  unfold RdN at r ⊢
  split
  · rename_i hc
    rw [if_pos hc] at r
    obtain ⟨p, o, e, h1, c, k⟩ := r
    refine ⟨p, o, e, h1, c, k.imp (fun z => z) fun ⟨a, b⟩ => ⟨a, fun z => b (h p z)⟩⟩
  · rename_i hc
    rw [if_neg hc] at r
    exact r
theorem Rel.lend (r : Rel K mg Γ ρ σ H F) (hm : Γ[i]? = some .own) : Rel K mg (Γ.set i .brw) ρ σ H F :=
  ⟨r.lr, by rw [List.length_set]; exact r.lg, fun j m d' g1 g2 => by
    rcases set_get g1 with ⟨e, rfl, _⟩ | ⟨e, g1⟩
    · subst e
      obtain ⟨v, h1, h2⟩ := r.slot i _ d' hm g2
      have h2 : Cell K mg H F v d' := h2
      refine ⟨v, h1, ?_⟩
      refine Cell.rdN h2 fun p e c ⟨j, z⟩ => ?_
      obtain ⟨z, n⟩ := z.of_set rfl
      exact n (r.inj j i p z ⟨_, d', hm, rfl, g2, c, by rw [h1, e]⟩)
    · obtain ⟨v, h1, h2⟩ := r.slot j m d' g1 g2
      refine ⟨v, h1, ?_⟩
      cases m with
      | brw => exact RdN.less h2 fun p z => Own.of_set rfl z
      | _ => exact h2, fun a b p g1 g2 => r.inj a b p (g1.of_set rfl).1 (g2.of_set rfl).1, r.sub⟩
theorem OwnAt.set_both {j : Nat} {p : Addr} (h : OwnAt (Γ.set i .own) (ρ.set i (some d)) σ j p) : (j = i ∧ cellD d = true ∧ σ[i]? = some (some (.ref p))) ∨ (j ≠ i ∧ OwnAt Γ ρ σ j p) := by
  obtain ⟨m, d', g1, g2, g3, g4, g5⟩ := h
  rcases set_get g3 with ⟨e, e2, _⟩ | ⟨e, g3⟩
  · subst e; cases e2; exact .inl ⟨rfl, g4, g5⟩
  · refine .inr ⟨fun z => e z.symm, m, d', ?_, g2, g3, g4, g5⟩
    rwa [List.getElem?_set_ne e] at g1
theorem BrwAt.set_both {j : Nat} {p : Addr} (h : BrwAt (Γ.set i .own) (ρ.set i (some d)) σ j p) : j ≠ i ∧ BrwAt Γ ρ σ j p := by
  obtain ⟨d', g1, g3, g4, g5⟩ := h
  rcases set_get g1 with ⟨e, e2, _⟩ | ⟨e, g1⟩
  · cases e2
  · refine ⟨fun z => e z.symm, d', g1, ?_, g4, g5⟩
    rwa [List.getElem?_set_ne e] at g3
variable {X : Cx} {W : WE} {e : Expr} {m : Md} {ev : Ev}
theorem ve_lend {i : Nat} (h : VE X (Γ.set i .brw) Γ' W e m ev) (hl : i < Γ'.length := by exact ltB rfl) (hm : Γ[i]? = some .own := by rfl) : VE X Γ (Γ'.set i .own) W e m (eLend i ev) :=
  peImp h fun σ H Q ⟨ρ, F, r, q⟩ => by
    obtain ⟨d, hd, q⟩ := gv_sat (Res.sat_bind.mp q)
    obtain ⟨v0, hv, hc⟩ := r.slot i _ d hm hd
    have hc : Cell X.K X.mg H F v0 d := hc
    have rb := r.lend hm
    have ownP : ∀ p, cellD d = true → σ[i]? = some (some (.ref p)) → OwnAt Γ ρ σ i p := fun p c e => ⟨_, d, hm, rfl, hd, c, e⟩
    have less : ∀ p, (Own (Γ.set i .brw) ρ σ).o p → (Own Γ ρ σ).o p := fun p z => Own.of_set rfl z
    refine ⟨ρ, F, rb, Res.sat_imp (Res.sat_bind.mp q) (fun z _ q v H' F' e1 r1 vo => ?_) fun x hx H' F' O' ee => ?_⟩
    · -- back to one's own
      have notO : ∀ p, cellD d = true → σ[i]? = some (some (.ref p)) → ¬ (Own (Γ.set i .brw) ρ σ).o p := fun p c e ⟨j, z⟩ => by
        obtain ⟨z, n⟩ := z.of_set rfl
        exact n (r.inj j i p z (ownP p c e))
      have there : ∀ p, cellD d = true → σ[i]? = some (some (.ref p)) → ∃ o, H p = some o ∧ F p = none := fun p c e => Own.there r ⟨i, ownP p c e⟩
      have notO' : ∀ p, cellD d = true → σ[i]? = some (some (.ref p)) → ¬ (Own Γ' z.2 σ).o p := fun p c e k => by
        obtain ⟨o, h1, h2⟩ := there p c e
        rcases e1.ow p k with w | w
        · exact notO p c e w
        · rw [h1] at w; cases w
      have cell' : Cell X.K X.mg H' F' v0 d := by
        unfold Cell at hc ⊢
        split
        · rename_i cc
          rw [if_pos cc] at hc
          obtain ⟨p, o, e2, h1, c, f⟩ := hc
          subst e2
          obtain ⟨k1, k2⟩ := e1.kp p o h1 f (notO p cc hv)
          exact ⟨p, o, rfl, k1, cont_mono e1.sf c, k2⟩
        · rename_i cc
          rw [if_neg cc] at hc
          exact rep_mono e1.sf hc
      have sub2 : ∀ p, (Own (Γ'.set i .own) (z.2.set i (some d)) σ).o p → (cellD d = true ∧ σ[i]? = some (some (.ref p))) ∨ (Own Γ' z.2 σ).o p := fun p ⟨j, k⟩ => by
        rcases k.set_both with ⟨rfl, c, e2⟩ | ⟨_, k⟩
        · exact .inl ⟨c, e2⟩
        · exact .inr ⟨j, k⟩
      have brw2 : ∀ j p, BrwAt (Γ'.set i .own) (z.2.set i (some d)) σ j p → BrwAt Γ ρ σ j p := fun j p k => by
        obtain ⟨n, k⟩ := k.set_both
        have k2 := e1.ob j p k
        obtain ⟨d', g1, g2⟩ := k2
        rw [List.getElem?_set_ne (fun w => n w.symm)] at g1
        exact ⟨d', g1, g2⟩
      have e2 : Evo (Own Γ ρ σ) H F (Own (Γ'.set i .own) (z.2.set i (some d)) σ) H' F' := e1.mono less (fun p k => by
        rcases sub2 p k with ⟨c, e2⟩ | k
        · exact .inl ⟨i, ownP p c e2⟩
        · exact (e1.ow p k).imp (less p) fun w => w) brw2
      have hiσ : i < σ.length := by
        rcases Nat.lt_or_ge i σ.length with w | w
        · exact w
        · rw [List.getElem?_eq_none w] at hv; cases hv
      have r2 : Rel X.K X.mg (Γ'.set i .own) (z.2.set i (some d)) σ H' F' :=
        ⟨by rw [List.length_set]; exact r1.lr, by rw [List.length_set]; exact r1.lg, fun j m d' g1 g2 => by
          rcases set_get g2 with ⟨e3, e4, _⟩ | ⟨e3, g2⟩
          · subst e3; cases e4
            rw [List.getElem?_set_self hl] at g1; cases g1
            exact ⟨v0, hv, cell'⟩
          · rw [List.getElem?_set_ne e3] at g1
            obtain ⟨w, w1, w2⟩ := r1.slot j m d' g1 g2
            refine ⟨w, w1, ?_⟩
            cases m with
            | brw =>
              have w2 : RdN X.K X.mg (Own Γ' z.2 σ) H' F' w d' := w2
              show RdN X.K X.mg _ H' F' w d'
              unfold RdN at w2 ⊢
              split
              · rename_i cc
                rw [if_pos cc] at w2
                obtain ⟨p, o, rfl, k1, k2, k3⟩ := w2
                refine ⟨p, o, rfl, k1, k2, k3.imp (fun z => z) fun ⟨k4, k5⟩ => ⟨k4, fun k6 => ?_⟩⟩
                rcases sub2 p k6 with ⟨c, e5⟩ | k6
                · -- a borrowed slot holds another object
                  obtain ⟨o', t1, t2⟩ := there p c e5
                  obtain ⟨dd, b1, b2, b3, b4⟩ := e1.ob j p ⟨d', g1, g2, cc, w1⟩
                  rw [List.getElem?_set_ne e3] at b1
                  obtain ⟨u, u1, u2⟩ := r.slot j _ dd b1 b2
                  have u2 : RdN X.K X.mg (Own Γ ρ σ) H F u dd := u2
                  rw [b4] at u1; cases u1
                  unfold RdN at u2
                  rw [if_pos b3] at u2
                  obtain ⟨p2, o2, e6, s1, _, s3⟩ := u2
                  cases e6
                  rcases s3 with s3 | ⟨_, s3⟩
                  · rw [t2] at s3; cases s3
                  · exact s3 ⟨i, ownP p c e5⟩
                · exact k5 k6
              · rename_i cc
                rw [if_neg cc] at w2
                exact w2
            | fz => exact w2
            | own => exact w2
            | io q => exact w2
            | xc a b c => exact w2, fun a b p g1 g2 => by
          rcases g1.set_both with ⟨e3, c, e4⟩ | ⟨e3, g1⟩
          · rcases g2.set_both with ⟨e5, _, _⟩ | ⟨e5, g2⟩
            · rw [e3, e5]
            · exact absurd ⟨b, g2⟩ (notO' p c e4)
          · rcases g2.set_both with ⟨e5, c, e6⟩ | ⟨e5, g2⟩
            · exact absurd ⟨a, g1⟩ (notO' p c e6)
            · exact r1.inj a b p g1 g2, r1.sub⟩
      refine q v H' F' e2 r2 ?_
      cases m with
      | own =>
        refine ⟨vo.1, fun c p e3 => ⟨(vo.2 c p e3).1, fun k => ?_⟩⟩
        rcases sub2 p k with ⟨c2, e4⟩ | k
        · obtain ⟨o, t1, _⟩ := there p c2 e4
          rw [(vo.2 c p e3).1] at t1; cases t1
        · exact (vo.2 c p e3).2 k
      | fz => exact vo
      | brw => exact vo
      | io q => exact vo
      | xc a b c => exact vo
    · exact hx H' F' ⟨O'.o, fun _ _ => False⟩ (ee.mono less (fun p k => (ee.ow p k).imp (less p) fun w => w) fun _ _ k => k.elim)
variable {Γ1 Γ2 : Gm} {S : SC} {pos pos' : Pos}
theorem vs_setE {i : Nat} {x : Str} (hN : X.N.Nodup) (hi : X.N[i]? = some x) (hx : Loc X.env.scope x) (h : VE X Γ Γ1 W e m ev) (hm : m = .fz ∨ m = .own) (hl : i < Γ1.length) (ha : i ∈ S.As) (hs : swapsWith e (some (.Name x pos')) pos.line X.env = pure false := by rfl)
    (hf : X.fn x = true ∨ X.env.scope.names.lookup x = some .local := by first | exact .inl rfl | exact .inr rfl | assumption) (hΓ : Γ1.set i m = Γ2 := by rfl) : VS X Γ Γ2 S W (.Assign [.Name x pos'] e pos) (sSet i ev) := by
  subst hΓ
  exact vs_set hN hi hx h hm hl ha hs hf
end
end VL

set_option Elab.async false
set_option linter.all false
set_option maxRecDepth 100000
/-! VL22: str, gcd, extend, &, list.index. -/
namespace VL
open PySem PySem.Spec PyProof.Rows L2
section
variable {X : Cx} {K : PySem.W.Frag} {mg : Str → Option Value}
/-! ### str -/
def strI (i : Int) : List Nat := (Str.ofString (toString i)).cps.toList
def fStr : List D → Option D
  | [.int i] => if Nat.ble i.natAbs 18446744073709551615 = true then some (.str (strI i)) else none
  | [.str a] => some (.str a)
  | _ => none
theorem log_le {n : Nat} (h : Nat.ble n 18446744073709551615 = true) : n.log2 < 1920 := by
  have h := Nat.le_of_ble_eq_true h
  by_cases h0 : n = 0
  · subst h0; decide
  · have : n < 2 ^ 64 := by omega
    have := (Nat.log2_lt h0).mpr this
    omega
theorem c_str : CallF K mg fStr (fun xs H Q => (∃ i, xs = [.int i] ∧ i.natAbs.log2 < 1920 ∧ Q (.str (toString i)) H) ∨ ∃ a, xs = [.str a] ∧ Q (.str a) H) .fz := by
  intro H F vs ds d Q s r hf q
  unfold fStr at hf
  split at hf
  · split at hf <;> cases hf
    rename_i hi
    obtain ⟨v, w, rfl, h1, rfl⟩ := r
    rw [h1.int]
    exact .inl ⟨_, rfl, log_le hi, q _ H F (Grow.refl s) (.atom rfl (by simp only [rep, strI]))⟩
  · cases hf
    obtain ⟨v, w, rfl, h1, rfl⟩ := r
    rw [h1.str]
    exact .inr ⟨_, rfl, q _ H F (Grow.refl s) (.atom rfl (by simp only [rep]))⟩
  · cases hf
theorem b_str : CallR X (.type "str") (fun xs H Q => (∃ i, xs = [.int i] ∧ i.natAbs.log2 < 1920 ∧ Q (.str (toString i)) H) ∨ ∃ a, xs = [.str a] ∧ Q (.str a) H) := call_str_int.or SkE.call_str_str
/-! ### gcd -/
def fGcd : List D → Option D
  | [.int a, .int b] => some (.int ((Nat.gcd a.natAbs b.natAbs : Nat) : Int))
  | _ => none
theorem c_gcd : CallF K mg fGcd rGcd .fz := by
  intro H F vs ds d Q s r hf q
  unfold fGcd at hf
  split at hf <;> cases hf
  obtain ⟨v, w, rfl, h1, v2, w2, rfl, h2, rfl⟩ := r
  rw [h1.int, h2.int]
  exact ⟨_, _, rfl, q _ H F (Grow.refl s) (.atom rfl rfl)⟩
/-! ### & -/
def dAnd : D → D → Option D
  | .int i, .int j => some (.int (Builtin.bitAnd i j))
  | _, _ => none
theorem f_and : OpF K mg dAnd (rI0 fun i j => .int (Builtin.bitAnd i j)) .fz := by
  intro H F v w a b d Q s ra rb hf q
  unfold dAnd at hf
  split at hf
  · cases hf
    exact ⟨_, _, ra.int, rb.int, q _ H F (Grow.refl s) (.atom rfl rfl)⟩
  · cases hf
/-! ### extend -/
def mExtend : List D → List D → Option (List D × D)
  | l, [.lst b] => if l.length + b.length ≤ 16777216 then some (l ++ b, .non) else none
  | _, _ => none
theorem m_extend : MtF K mg mExtend rExtend := by
  intro H F p ws l ds vs l' u Q s hp rl rd hf q
  unfold mExtend at hf
  split at hf
  · split at hf <;> cases hf
    rename_i b hl
    simp only [reps] at rd
    obtain ⟨v, w, rfl, h1, rfl⟩ := rd
    simp only [rep] at h1
    obtain ⟨p2, ws2, rfl, h2, h3⟩ := h1
    exact ⟨p, p2, ws, ws2, rfl, rfl, hp, s _ _ h2, by rw [sizeLine_eq, reps_length rl, reps_length h3]; exact hl, q _ _ (reps_append rl h3) rfl⟩
  · cases hf
end
section
variable {X : Cx} {Γ Γ' Γ1 Γ2 Γ3 : Gm} {W : WE} {o e : Expr} {es : List Expr} {pos p apos cpos : Pos} {m : Md} {as : List Arg} {i : Nat} {name : Str} {id : String} {r : V → List V → Hp → VK → Prop}
/-- f(e, ..), f a module's name for a built-in function -/
theorem ve_callBf {x : Str} {f : List D → Option D} {r : List V → Hp → VK → Prop} (hc : CallR X (.builtin id) r) (hf : CallF X.K X.mg f r m) (hg : Gl X x) (hm : X.mg x = some (.builtin id)) (ha : VA X Γ Γ' W (e :: es) as) (hdb : (x == ("__debug__" : Str)) = false := by decide)
    (he : starEach (e :: es) X.env = (false, eval e X.env) :: starEach es X.env := by rfl) (hpl : (backTo pos (starEach es X.env)).any (·.1) = false := by rfl) : VE X Γ Γ' W (.Call (.Name x p) (e :: es) [] pos) m (eCall f as) :=
  peImp (pe_callBfun hc hg hm ha hdb he hpl) fun _ _ _ h => call_tr hf h
/-! ### a method that only reads its list -/
def MthF (K : PySem.W.Frag) (mg : Str → Option Value) (f : List D → List D → Option D) (r : V → List V → Hp → VK → Prop) : Prop :=
  ∀ H F v l vs ds u Q, Same F H → Rdd K mg H F v (.lst l) → Rdds K mg H F vs ds → f l ds = some u → (∀ w, cellD u = false → rep K mg F u w → Q w H) → r v vs H Q
def eMth (i : Nat) (f : List D → List D → Option D) (as : List Arg) : Ev := fun ρ => (gv ρ i).bind fun d0 => if isLst d0 = true then (Arg.runs as ρ).bind fun p => (Arg.fins as p.1 p.2).bind fun ds => (gv p.2 i).bind fun d => match d with
  | .lst l => (opt (f l ds)).bind fun q => .ok (q, p.2)
  | _ => .bad
  else .bad
theorem ve_mth {f : List D → List D → Option D} (hf : MthF X.K X.mg f r) (slot : Slot "list" name id) (hty : typeOf (.builtin id) = pure (.type "method_descriptor")) (hr : MtR X id r) (ho : PE X o (tVar i)) (ha : VA X Γ Γ1 W (e :: es) as)
    (hbase : attributeBase o name X.env (eval o X.env) = eval o X.env := by rfl)
    (hfew : ((backTo cpos (starEach (e :: es) X.env)).all (fun x => !x.1) && (backToKw cpos (keywordEach [] X.env)).all (fun x => x.1.isSome)
      && decide ((e :: es).length + ([] : List Keyword).length + (if ([] : List Keyword).isEmpty then 0 else 1) < 30)) = true := by rfl)
    (hline : (apos.endLine == cpos.line) = true := by rfl) (hs : starEach (e :: es) X.env = (false, eval e X.env) :: starEach es X.env := by rfl) (hplain : (backTo cpos (starEach es X.env)).any (·.1) = false := by rfl) :
    VE X Γ Γ1 W (.Call (.Attribute o name apos) (e :: es) [] cpos) .fz (eMth i f as) :=
  peImp (pe_bm PySem.F.plainAttrs_list slot hty hr ho ha hbase hfew hline hs hplain) fun σ H Q ⟨ρ, F, r0, q⟩ => by
    obtain ⟨d0, e2, q⟩ := gv_sat (Res.sat_bind.mp q)
    by_cases hl : isLst d0 = true
    · rw [if_pos hl] at q
      cases d0 <;> first | (cases hl; done) | skip
      obtain ⟨v, h1, h2⟩ := r0.rdd e2
      obtain ⟨p, ws, rfl, h3, h4⟩ := h2.lst
      refine ⟨_, h1, .inl ⟨rfl, ws, .of h3⟩, ρ, F, r0, Res.sat_imp (Res.sat_bind.mp q) (fun z _ q vs H1 F1 ee r1 b1 => ?_) fun _ h => h⟩
      obtain ⟨ds, hds, q⟩ := fins_sat q
      obtain ⟨d, hd, q⟩ := gv_sat (Res.sat_bind.mp q)
      cases d <;> first | exact q.elim | skip
      rename_i l
      obtain ⟨u, hu, q⟩ := opt_sat (Res.sat_bind.mp q)
      obtain ⟨v2, k1, k2⟩ := r1.rdd hd
      rw [h1] at k1; cases k1
      refine hf H1 F1 _ l vs ds u Q r1.sub k2 ((b1.fin r1 hds).rdds r1.sub) hu fun w hc hw => ?_
      exact q w H1 F1 ee r1 hw
    · rw [if_neg hl] at q; exact q.elim
/-- the first place of an equal one -/
def idxD (x : D) : List D → Nat → Option Nat
  | [], _ => none
  | y :: ys, k => if eqD y x = true then some k else idxD x ys (k + 1)
def mIndex : List D → List D → Option D
  | l, [x] => if flatD x = true ∧ l.all flatD = true then (idxD x l 0).map fun k : Nat => .int (k : Int) else none
  | _, _ => none
theorem idxD_spec {x : D} : ∀ {l : List D} {k j : Nat}, idxD x l k = some j → ∃ n, j = k + n ∧ (∃ y, l[n]? = some y ∧ eqD y x = true) ∧ ∀ m y, m < n → l[m]? = some y → eqD y x = false
  | [], _, _, h => by cases h
  | y :: ys, k, j, h => by
    unfold idxD at h
    split at h
    · rename_i he
      cases h
      exact ⟨0, rfl, ⟨y, rfl, he⟩, fun m y hm => by omega⟩
    · rename_i he
      obtain ⟨n, rfl, ⟨z, h1, h2⟩, h3⟩ := idxD_spec h
      refine ⟨n + 1, by omega, ⟨z, by simpa using h1, h2⟩, fun m w hm hw => ?_⟩
      cases m with
      | zero => simp at hw; subst hw; simpa using he
      | succ m => exact h3 m w (by omega) (by simpa using hw)
theorem m_index {K : PySem.W.Frag} {mg : Str → Option Value} : MthF K mg mIndex (rIndex K) := by
  intro H F v l vs ds u Q s rl rd hf q
  unfold mIndex at hf
  split at hf
  · rename_i x
    split at hf
    · rename_i hfl
      cases hi : idxD x l 0 with
      | none => rw [hi] at hf; cases hf
      | some k =>
        rw [hi] at hf; cases hf
        obtain ⟨n, e, ⟨y, h1, h2⟩, h3⟩ := idxD_spec hi
        have e : k = n := by omega
        subst e
        obtain ⟨vx, w, rfl, hx, rfl⟩ := rd
        obtain ⟨p, ws, rfl, hp, hws⟩ := rl.lst
        have hcx : cellD x = false := by cases x <;> first | (cases hfl.1; done) | rfl
        have rx := hx.of_rep hcx
        obtain ⟨vy, k1, k2⟩ := reps_get hws h1
        have fl := fun (m : Nat) (y : D) (h : l[m]? = some y) => List.all_eq_true.mp hfl.2 y (List.mem_of_getElem? h)
        refine ⟨p, ws, vx, k, vy, rfl, rfl, .of hp, flat_rdd hfl.1 rx, (flat_any hfl.1 rx hfl.2 hws).2, k1, ?_, fun m z' hm hz => ?_, q _ rfl rfl⟩
        · rw [flat_eq hfl.1 (fl k y h1) rx k2]; exact h2
        · have hml : m < l.length := by
            have := (List.getElem?_eq_some_iff.mp hz).1
            rw [reps_length hws] at this; exact this
          obtain ⟨vm, q1, q2⟩ := reps_get hws (List.getElem?_eq_getElem hml)
          rw [hz] at q1; cases q1
          rw [flat_eq hfl.1 (fl m _ (List.getElem?_eq_getElem hml)) rx q2]
          exact h3 m _ hm (List.getElem?_eq_getElem hml)
    · cases hf
  · cases hf
end
end VL

set_option Elab.async false
set_option linter.all false
set_option maxRecDepth 100000
/-! VL23: sorted of data of any kind. -/
namespace VL
open PySem PySem.Spec PyProof.Rows L2 PySem.W
section
variable {X : Cx} {K : PySem.W.Frag} {mg : Str → Option Value}
def rSortD (K : PySem.W.Frag) : List V → Hp → VK → Prop := fun vs H Q => ∃ (a : Addr) (bs : List (V × PyData)), vs = [V.ref a] ∧ SqL K H a (bs.map (·.1)) ∧ (∀ b ∈ bs, Dp K H b.1 b.2) ∧ AllAlike (bs.map (·.2)) ∧ PySem.W.Sortable (bs.map (·.2)) ∧ (∀ b ∈ bs, b.2.depth ≤ 60) ∧
  ∀ p : Addr, H p = none → Q (.ref p) (upd H p (.lst ((bs.mergeSort (dataLe false (·.2))).map (·.1))))
theorem vals_each : ∀ {bs : List (V × PyData)} {us : List Value}, Vals (bs.map (·.1)) us → EachIs (fun (u : Value) (b : V × PyData) => RelV b.1 u) us bs
  | [], _, h => by cases h; exact .nil
  | b :: bs, _, h => by
    cases h with
    | cons h1 h2 => exact .cons h1 (vals_each h2)
theorem each_vals : ∀ {bs : List (V × PyData)} {us : List Value}, EachIs (fun (u : Value) (b : V × PyData) => RelV b.1 u) us bs → Vals (bs.map (·.1)) us
  | _, _, .nil => .nil
  | _, _, .cons h1 h2 => .cons h1 (each_vals h2)
theorem each_reads {pins : List (Addr × Obj)} {σ : St} {H : Hp} {s : Shared} (I : Inv X pins σ H s) : ∀ {bs : List (V × PyData)} {us : List Value}, EachIs (fun (u : Value) (b : V × PyData) => RelV b.1 u) us bs → (∀ b ∈ bs, Dp X.K H b.1 b.2) → EachIs (fun (u : Value) (b : V × PyData) => ∃ as, Reads s.heap u b.2 as) us bs
  | _, _, .nil, _ => .nil
  | _, _, .cons h1 h2, h => .cons (Dp.reads I _ _ _ (h _ List.mem_cons_self) h1) (each_reads I h2 fun b hb => h b (List.mem_cons_of_mem _ hb))
theorem cr_sortD (hu : X.A.units + 64 < cLine) : CallR X (.builtin "sorted") (rSortD X.K) := by
  intro pins s σ H vs us Q I r h
  obtain ⟨a, bs, rfl, hs, hd, hal, hk, hdp, q⟩ := h
  obtain ⟨its, rv, hl, hz⟩ := I.list hs
  rw [Vals.ref1 r]
  have e := vals_each rv
  refine PySem.W.sorted_data (R := fun (u : Value) (b : V × PyData) => RelV b.1 u) (enc := fun b : V × PyData => b.2) hl.isList e (each_reads I e hd) hal hk (by rw [List.length_map] at hz; exact hz) (fun b hb => by have := hdp b hb; omega) fun out ho h2 => ?_
  obtain ⟨ep, he'⟩ := PyProof.Rows.sortedAll_at s.heap its out.toArray
  refine ⟨.ref _, upd H (s.heap.objs.size + 1) (.lst ((bs.mergeSort (dataLe false (·.2))).map (·.1))), I.laid (t' := s.toks) (fun _ _ => PyProof.Rows.sortedAll_old) (Nat.le_succ _) ⟨?_, out, ep, each_vals h2, he'⟩, rfl, q _ (I.hok.fresh (Nat.le_succ _))⟩
  rw [List.length_map, List.length_mergeSort]
  rw [List.length_map] at hz
  exact hz
/-! ### by data -/
def leD (a b : D) : Bool := dataLe false pyd a b
def alikeD (l : List D) : Bool := l.all fun a => l.all fun b => alike (pyd a) (pyd b)
def tupD : D → Bool
  | .tup (_ :: _) => true
  | _ => false
def nTupD : D → Bool
  | .bl _ => true
  | .int _ => true
  | .str _ => true
  | .lst _ => true
  | _ => false
def okSort (l : List D) : Bool := goodDs 59 l && alikeD l && (l.all tupD || l.all nTupD)
def fSortD : List D → Option D
  | [.lst l] => if okSort l = true then some (.lst (l.mergeSort leD)) else none
  | _ => none
theorem pyds_map : ∀ l : List D, pyds l = l.map pyd
  | [] => rfl
  | d :: l => by rw [pyds, List.map_cons, pyds_map l]
theorem reps_zip {F : Hp} : ∀ {l : List D} {vs : List V}, reps K mg F l vs → ∀ z ∈ l.zip vs, rep K mg F z.1 z.2
  | [], _, h, z, hz => by simp at hz
  | d :: l, _, h, z, hz => by
    simp only [reps] at h
    obtain ⟨v, w, rfl, h1, h2⟩ := h
    rcases List.mem_cons.mp hz with rfl | hz
    · exact h1
    · exact reps_zip h2 z hz
theorem zip_reps {F : Hp} : ∀ {zs : List (D × V)}, (∀ z ∈ zs, rep K mg F z.1 z.2) → reps K mg F (zs.map Prod.fst) (zs.map Prod.snd)
  | [], _ => by simp only [List.map_nil, reps]
  | z :: zs, h => reps_cons (h z List.mem_cons_self) (zip_reps fun y hy => h y (List.mem_cons_of_mem _ hy))
theorem goodDs_mem {n : Nat} : ∀ {l : List D} {d : D}, goodDs n l = true → d ∈ l → goodD n d = true
  | [], _, _, h => by simp at h
  | x :: l, d, h, hd => by
    simp only [goodDs, Bool.and_eq_true] at h
    rcases List.mem_cons.mp hd with rfl | hd
    · exact h.1
    · exact goodDs_mem h.2 hd
theorem c_sortD : CallF K mg fSortD (rSortD K) .own := by
  intro H F vs ds d Q s r hf q
  unfold fSortD at hf
  split at hf
  · rename_i l
    split at hf <;> cases hf
    rename_i hok
    unfold okSort at hok
    simp only [Bool.and_eq_true] at hok
    obtain ⟨⟨hg, ha⟩, hs⟩ := hok
    obtain ⟨v, w, rfl, h1, rfl⟩ := r
    obtain ⟨p, ws, rfl, h2, h3⟩ := h1.lst
    have hlen := reps_length h3
    have hz := reps_zip h3
    have zl : ∀ z ∈ l.zip ws, z.1 ∈ l := fun z hz => (List.of_mem_zip (a := z.1) (b := z.2) hz).1
    have e1 : ((l.zip ws).map fun z => (z.2, pyd z.1)).map (·.1) = ws := by
      rw [List.map_map]
      show (l.zip ws).map Prod.snd = ws
      rw [List.map_snd_zip (by omega)]
    have e2 : ((l.zip ws).map fun z => (z.2, pyd z.1)).map (·.2) = l.map pyd := by
      rw [List.map_map]
      have : ((fun b : V × PyData => b.2) ∘ fun z : D × V => (z.2, pyd z.1)) = pyd ∘ Prod.fst := rfl
      rw [this, ← List.map_map, List.map_fst_zip (by omega)]
    have e3 : AllAlike (l.map pyd) := by
      intro a ha' b hb'
      obtain ⟨x, hx, rfl⟩ := List.mem_map.mp ha'
      obtain ⟨y, hy, rfl⟩ := List.mem_map.mp hb'
      exact List.all_eq_true.mp (List.all_eq_true.mp ha x hx) y hy
    have e4 : PySem.W.Sortable (l.map pyd) := by
      rcases Bool.or_eq_true _ _ |>.mp hs with hs | hs
      · left
        intro a ha'
        obtain ⟨x, hx, rfl⟩ := List.mem_map.mp ha'
        have := List.all_eq_true.mp hs x hx
        cases x <;> first | (cases this; done) | skip
        rename_i t
        cases t with
        | nil => cases this
        | cons y t => exact ⟨pyd y, pyds t, by simp only [pyd, pyds]⟩
      · right
        intro a ha'
        obtain ⟨x, hx, rfl⟩ := List.mem_map.mp ha'
        have := List.all_eq_true.mp hs x hx
        cases x <;> first | (cases this; done) | (refine ⟨by simp [pyd], fun xs => by simp [pyd]⟩)
    refine ⟨p, (l.zip ws).map fun z => (z.2, pyd z.1), rfl, by rw [e1]; exact .of h2, fun b hb => ?_, by rw [e2]; exact e3, by rw [e2]; exact e4, fun b hb => ?_, fun n hn => ?_⟩
    · obtain ⟨z, hz1, rfl⟩ := List.mem_map.mp hb
      exact rep_dp s z.1 59 z.2 (goodDs_mem hg (zl z hz1)) (hz z hz1)
    · obtain ⟨z, hz1, rfl⟩ := List.mem_map.mp hb
      have := (good_lay z.1 59 (goodDs_mem hg (zl z hz1))).2
      show (pyd z.1).depth ≤ 60
      omega
    · have m1 : ((l.zip ws).mergeSort (fun z y => leD z.1 y.1)).map Prod.fst = l.mergeSort leD := by
        rw [PySem.W.sort_maps (s := leD) Prod.fst (fun _ _ _ _ => rfl), List.map_fst_zip (by omega)]
      have m2 : (((l.zip ws).map fun z => (z.2, pyd z.1)).mergeSort (dataLe false (·.2))).map (·.1) = ((l.zip ws).mergeSort (fun z y => leD z.1 y.1)).map Prod.snd := by
        rw [← PySem.W.sort_maps (r := fun z y => leD z.1 y.1) (s := dataLe false (·.2)) (fun z : D × V => (z.2, pyd z.1)) (fun _ _ _ _ => rfl), List.map_map]
        rfl
      rw [m2]
      rw [← m1] at q
      have rr := zip_reps (K := K) (mg := mg) (F := F) (zs := (l.zip ws).mergeSort (fun z y => leD z.1 y.1)) fun z hz' => hz z (List.mem_mergeSort.mp hz')
      exact q _ _ F (Grow.newO s hn) (.newL hn s rr)
  · cases hf
/-- whole numbers as before; else any data -/
def fSortedA (ds : List D) : Option D := match fSorted ds with
  | some d => some d
  | none => fSortD ds
theorem c_sortedA : CallF K mg fSortedA (fun vs H Q => rSortedI K vs H Q ∨ rSortD K vs H Q) .own := by
  intro H F vs ds d Q s r hf q
  unfold fSortedA at hf
  cases h : fSorted ds with
  | some d' => rw [h] at hf; cases hf; exact .inl (c_sorted H F vs ds d Q s r h q)
  | none => rw [h] at hf; exact .inr (c_sortD H F vs ds d Q s r hf q)
theorem cr_sortedA (hu : X.A.units + 64 < cLine) : CallR X (.builtin "sorted") (fun vs H Q => rSortedI X.K vs H Q ∨ rSortD X.K vs H Q) := cr_sortedI.or (cr_sortD hu)
end
end VL

set_option Elab.async false
set_option linter.all false
set_option maxRecDepth 100000
/-! VL24: >= of tuples of whole numbers. -/
namespace VL
open PySem PySem.Spec PyProof.Rows L2
def rGeT (K : PySem.W.Frag) : R2 := fun x y H Q => ∃ a b ns ms, x = V.ref a ∧ y = V.ref b ∧ SqT K H a (List.map V.int ns) ∧ SqT K H b (List.map V.int ms) ∧
  Q (.bl (Ob.lexAt (fun j => decide (ns.getD j 0 = ms.getD j 0)) (fun j => decide (ms.getD j 0 ≤ ns.getD j 0)) (decide (ns.length ≥ ms.length)) 0 (min ns.length ms.length))) H
theorem vals_ints : ∀ {ns : List Int} {its : List Value}, Vals (ns.map V.int) its → its.length = ns.length ∧ ∀ (j : Nat) (hj : j < its.length), ∃ t, its[j] = .int (ns.getD j 0) t
  | [], _, h => by cases h; exact ⟨rfl, fun j hj => by simp at hj⟩
  | n :: ns, _, h => by
    cases h with
    | cons h1 h2 =>
      obtain ⟨l, g⟩ := vals_ints h2
      refine ⟨by simp [l], fun j hj => ?_⟩
      cases j with
      | zero => obtain ⟨t, e⟩ := h1; exact ⟨t, by simpa using e⟩
      | succ j => obtain ⟨t, e⟩ := g j (by simpa using hj); exact ⟨t, by simpa using e⟩
theorem op_geT {X : Cx} (hu : X.A.units < cLine) : OpR X (compareOp .GtE) (rGeT X.K) := by
  intro pins s σ H x y v u Q I rx ry h
  obtain ⟨a, b, ns, ms, rfl, rfl, ha, hb, q⟩ := h
  obtain ⟨ia, va, ta, la⟩ := I.tuple ha
  obtain ⟨ib, vb, tb, lb⟩ := I.tuple hb
  have rx : v = .ref a := rx
  have ry : u = .ref b := ry
  subst rx ry
  obtain ⟨l1, g1⟩ := vals_ints va
  obtain ⟨l2, g2⟩ := vals_ints vb
  have key : Ob.RcOp .GtE X.A s (.ref a) (.ref b) _ := Ob.RcOp.tuples_ge (e := fun j => decide (ns.getD j 0 = ms.getD j 0)) (r := fun j => decide (ms.getD j 0 ≤ ns.getD j 0)) (items := ia.toArray) (items2 := ib.toArray) ta tb hu (fun j h1 h2 => by
    obtain ⟨t, e1⟩ := g1 j (by simpa using h1)
    obtain ⟨t', e2⟩ := g2 j (by simpa using h2)
    intro prog w E Q q
    simp only [List.getElem_toArray, e1, e2]
    exact PySem.wpAny_eqBool_int (by rw [show (ns.getD j 0 == ms.getD j 0) = decide (ns.getD j 0 = ms.getD j 0) by rw [Bool.eq_iff_iff]; simp]; exact q)) (fun j h1 h2 _ => by
    obtain ⟨t, e1⟩ := g1 j (by simpa using h1)
    obtain ⟨t', e2⟩ := g2 j (by simpa using h2)
    simp only [List.getElem_toArray, e1, e2]
    exact Ob.RcOp.ge_int _ _ _ _)
  have e : decide (ia.toArray.size ≥ ib.toArray.size) = decide (ns.length ≥ ms.length) := by simp [l1, l2]
  have e2 : min ia.toArray.size ib.toArray.size = min ns.length ms.length := by simp [l1, l2]
  rw [e, e2] at key
  exact key X.prog X.w X.xe _ ⟨.bl _, H, I, rfl, q⟩
theorem lexAt_shift {z : Bool} : ∀ {k i : Nat} {e r : Nat → Bool}, Ob.lexAt e r z (i + 1) k = Ob.lexAt (fun j => e (j + 1)) (fun j => r (j + 1)) z i k
  | 0, _, _, _ => rfl
  | k + 1, i, e, r => by rw [Ob.lexAt_succ, Ob.lexAt_succ, lexAt_shift]
theorem lexAt_lt : ∀ {ns ms : List Int}, Ob.lexAt (fun j => decide (ns.getD j 0 = ms.getD j 0)) (fun j => decide (ms.getD j 0 ≤ ns.getD j 0)) (decide (ns.length ≥ ms.length)) 0 (min ns.length ms.length) = !decide (ns < ms)
  | [], [] => by simp [Ob.lexAt_zero]
  | [], y :: ms => by simp [Ob.lexAt_zero]
  | x :: ns, [] => by simp [Ob.lexAt_zero]
  | x :: ns, y :: ms => by
    have h := @lexAt_lt ns ms
    rw [List.length_cons, List.length_cons, show min (ns.length + 1) (ms.length + 1) = min ns.length ms.length + 1 by omega, Ob.lexAt_succ, lexAt_shift]
    simp only [List.getD_cons_zero, List.getD_cons_succ]
    rw [show decide (ns.length + 1 ≥ ms.length + 1) = decide (ns.length ≥ ms.length) by rw [Bool.eq_iff_iff]; simp, h]
    rw [Bool.eq_iff_iff]
    simp only [decide_eq_true_eq, Bool.not_eq_true', decide_eq_false_iff_not, List.cons_lt_cons_iff]
    by_cases hxy : x = y
    · subst hxy; simp
    · simp only [hxy, if_false, false_and, or_false, decide_eq_true_eq]; omega
def dGeX : D → D → Option D
  | .tup xs, .tup ys => (intsOf xs).bind fun ns => (intsOf ys).map fun ms => .bl (!decide (ns < ms))
  | .int i, .int j => some (.bl (decide (j ≤ i)))
  | .str a, .str b => some (.bl (!decide (a < b)))
  | _, _ => none
@[simp] theorem dGeX_int {i j : Int} : dGeX (.int i) (.int j) = some (.bl (decide (j ≤ i))) := rfl
def rGeX (K : PySem.W.Frag) : R2 := fun x y H Q => (rI0 (fun i j => .bl (decide (j ≤ i))) x y H Q ∨ ∃ i j, x = .str i ∧ y = .str j ∧ Q (.bl (!decide (i.cps.toList < j.cps.toList))) H) ∨ rGeT K x y H Q
section
variable {X : Cx} {K : PySem.W.Frag} {mg : Str → Option Value}
theorem op_geX (hu : X.A.units < cLine) : OpR X (compareOp .GtE) (rGeX X.K) := op_geA.or (op_geT hu)
theorem f_geX : OpF K mg dGeX (rGeX K) .fz := by
  intro H F v w a b d Q s ra rb hf q
  unfold dGeX at hf
  split at hf
  · rename_i x y
    cases hx : intsOf x with
    | none => rw [hx] at hf; cases hf
    | some ns =>
      cases hy : intsOf y with
      | none => rw [hx, hy] at hf; cases hf
      | some ms =>
        rw [hx, hy] at hf; cases hf
        have e1 := intsOf_ok hx
        have e2 := intsOf_ok hy
        subst e1 e2
        obtain ⟨p, vs, rfl, h1, h2⟩ := ra.tup
        obtain ⟨p', vs', rfl, h1', h2'⟩ := rb.tup
        rw [reps_ints h2] at h1
        rw [reps_ints h2'] at h1'
        exact .inr ⟨p, p', ns, ms, rfl, rfl, Same.sqT s h1, Same.sqT s h1', by rw [lexAt_lt]; exact q _ H F (Grow.refl s) (.atom rfl rfl)⟩
  · cases hf
    exact .inl (.inl ⟨_, _, ra.int, rb.int, q _ H F (Grow.refl s) (.atom rfl rfl)⟩)
  · cases hf
    exact .inl (.inr ⟨_, _, ra.str, rb.str, q _ H F (Grow.refl s) (.atom rfl rfl)⟩)
  · cases hf
end
end VL

set_option Elab.async false
set_option linter.all false
set_option maxRecDepth 100000
/-! VL32: the law's promise for a def whose calls might raise, but here do not. -/
namespace VL
open PySem PySem.Spec PyProof.Rows L2
theorem law_impW {P : Program} {w : World} {K : PySem.W.Frag} {mg : Str → Option Value} {base : Heap} {k : Nat} {f : Addr} {fd : FuncData} {ps : List Str} {rm : Md} {fe : Fe} {pm : PM} (G : FnOk P w K mg base (L2N.CX P w) k f fd ps (spFn K mg [pm] rm fe (EXW K mg))) (hpm : pm = .brw ∨ pm = .fz) (hrm : rm = .fz)
    (h : ∀ ns : List Int, ns.length ≤ 63 → ∃ os, fe [.scr ns] = .ok (.bl true, os)) : FnOk P w K mg base CX0 k f fd ps (spL K) := by
  have G' : FnOk P w K mg base (L2N.CX P w) k f fd ps (spL K) := G.imp fun vs H Q E ⟨a, ns, e, hS, hl, q⟩ => by
    subst e hrm
    obtain ⟨os, ho⟩ := h ns hl
    have io : ioAd [pm] [V.ref a] = [] := by rcases hpm with rfl | rfl <;> rfl
    have rp : rep K mg H (.scr ns) (.ref a) := by simp only [rep]; exact ⟨a, rfl, hS⟩
    refine ⟨rfl, H, [.scr ns], Same.refl _, ⟨_, [], _, [], rfl, rfl, ?_, rfl, rfl⟩, by rw [io]; exact List.nodup_nil, ?_⟩
    · rcases hpm with rfl | rfl
      · exact rp.rdN (Same.refl _)
      · exact rp
    · rw [ho]
      intro v H' F' _ _ rv
      have rv : v = .bl true := rv
      subst rv
      exact q H'
  refine ⟨G'.len, fun A outer s H args us vs Q E hr he hb hv hs => ?_⟩
  refine codeAny_mono (G'.run A outer s H args us vs Q E0 hr he hb hv hs) fun r s' c => ?_
  unfold CR at c ⊢
  split at c
  · exact c
  · exact c
  · obtain ⟨_, _, _, _, _, _, _, _, _, _, _, _, e⟩ := c
    exact e.elim
end VL

set_option Elab.async false
set_option linter.all false
set_option maxRecDepth 100000
/-! VL33: zip of two lists. -/
namespace VL
open PySem PySem.Spec PyProof.Rows L2
def zipD : List D → List D → List D
  | a :: l, b :: m => .tup [a, b] :: zipD l m
  | _, _ => []
theorem zipD_get : ∀ (l m : List D) (i : Nat), (zipD l m)[i]? = (match l[i]?, m[i]? with
    | some a, some b => some (.tup [a, b])
    | _, _ => none)
  | [], m, i => by simp [zipD]
  | a :: l, [], i => by simp only [zipD, List.getElem?_nil]; split <;> simp_all
  | a :: l, b :: m, 0 => by simp [zipD]
  | a :: l, b :: m, i + 1 => by simp only [zipD, List.getElem?_cons_succ]; exact zipD_get l m i
theorem zipD_len : ∀ (l m : List D), (zipD l m).length = min l.length m.length
  | [], m => by simp [zipD]
  | a :: l, [] => by simp [zipD]
  | a :: l, b :: m => by simp only [zipD, List.length_cons, zipD_len l m]; omega
section
variable {K : PySem.W.Frag} {mg : Str → Option Value} {O O' : Ft} {H F H' F' : Hp} {l m : List D} {p q : Addr} {vs ws : List V}
theorem walks_zip (hH : H p = some (.lst vs)) (hr : reps K mg F l vs) (hf : F p = some (.lst vs) ∨ (F p = none ∧ ¬ O.o p)) (hH2 : H q = some (.lst ws)) (hr2 : reps K mg F m ws) (hf2 : F q = some (.lst ws) ∨ (F q = none ∧ ¬ O.o q)) : Walks K mg (Itz K p q) (zipD l m) O H F := by
  have st : ∀ {p : Addr} {l : List D} {vs : List V} {O1 : Ft} {H1 F1 : Hp} {O2 : Ft} {H2 F2 : Hp}, (H1 p = some (.lst vs) ∧ reps K mg F1 l vs ∧ (F1 p = some (.lst vs) ∨ (F1 p = none ∧ ¬ O1.o p))) → Evo O1 H1 F1 O2 H2 F2 → (H2 p = some (.lst vs) ∧ reps K mg F2 l vs ∧ (F2 p = some (.lst vs) ∨ (F2 p = none ∧ ¬ O2.o p))) := by
    rintro p l vs O1 H1 F1 O2 H2 F2 ⟨g1, g2, g3⟩ e
    rcases g3 with g3 | ⟨g3, g4⟩
    · exact ⟨e.sh _ _ (e.sf _ _ g3), reps_mono e.sf g2, .inl (e.sf _ _ g3)⟩
    · obtain ⟨k1, k2⟩ := e.kp p _ g1 g3 g4
      refine ⟨k1, reps_mono e.sf g2, .inr ⟨k2, fun z => ?_⟩⟩
      rcases e.ow p z with w | w
      · exact g4 w
      · rw [g1] at w; cases w
  refine ⟨fun O H F => (H p = some (.lst vs) ∧ reps K mg F l vs ∧ (F p = some (.lst vs) ∨ (F p = none ∧ ¬ O.o p))) ∧ (H q = some (.lst ws) ∧ reps K mg F m ws ∧ (F q = some (.lst ws) ∨ (F q = none ∧ ¬ O.o q))), ⟨⟨hH, hr, hf⟩, hH2, hr2, hf2⟩, fun O1 H1 F1 O2 H2 F2 g e => ⟨st g.1 e, st g.2 e⟩, ?_⟩
  rintro i O H F ⟨⟨g1, g2, g3⟩, g4, g5, g6⟩ s
  refine ⟨fun d hd => ?_, fun e => ⟨vs, ws, .of g1, .of g4, by rw [reps_length g2, reps_length g5, e, zipD_len]; omega⟩⟩
  rw [zipD_get] at hd
  cases hc : l[i]? with
  | none => rw [hc] at hd; cases hd
  | some c =>
    cases hc2 : m[i]? with
    | none => rw [hc, hc2] at hd; cases hd
    | some c2 =>
      rw [hc, hc2] at hd; cases hd
      obtain ⟨v, h1, h2⟩ := reps_get g2 hc
      obtain ⟨v2, h3, h4⟩ := reps_get g5 hc2
      refine ⟨⟨vs, ws, v, v2, .of g1, .of g4, h1, h3⟩, fun x H' ⟨T, y, y2, e1, e2, e3, e4, e5⟩ => ?_⟩
      subst e1 e3
      have a1 := e4 vs (.of g1)
      rw [h1] at a1; cases a1
      have a2 := e5 ws (.of g4)
      rw [h3] at a2; cases a2
      exact ⟨_, Grow.newF s e2, rep_tup_new e2 s (reps_cons h2 (reps_one h4))⟩
end
section
variable {X : Cx} {Γ Γ' Γ1 : Gm} {W : WE} {tg iter a b : Expr} {pos : Pos} {ev1 ev2 : Ev}
def eZip (f g : Ev) : Eit := fun ρ => (f ρ).bind fun r => (g r.2).bind fun q => match r.1, q.1 with
  | .lst l, .lst m => .ok (zipD l m, q.2)
  | _, _ => .bad
def trX2 (X : Cx) (Γ Γ1 Γ' : Gm) (W : WE) (f g : Ev) : TA := fun σ H Q => trB X Γ Γ1 W (.ex f) σ H fun v H1 => trB X Γ1 Γ' W (.ex g) σ H1 fun w H2 => Q [v, w] H2
theorem pa_two (h : VB X Γ Γ1 W a (.ex ev1)) (h2 : VB X Γ1 Γ' W b (.ex ev2)) (hs : starEach [a, b] X.env = (false, eval a X.env) :: starEach [b] X.env := by rfl) (hs2 : starEach [b] X.env = (false, eval b X.env) :: starEach [] X.env := by rfl) : PA X [a, b] (trX2 X Γ Γ1 Γ' W ev1 ev2) :=
  paImp (pa_cons h (pa_cons h2 pa_nil hs2) hs) fun σ H Q h => h
theorem lstN {K : PySem.W.Frag} {mg : Str → Option Value} {O : Ft} {H F : Hp} {v : V} {l : List D} (b : RdN K mg O H F v (.lst l)) : ∃ p vs, v = .ref p ∧ H p = some (.lst vs) ∧ reps K mg F l vs ∧ (F p = some (.lst vs) ∨ (F p = none ∧ ¬ O.o p)) := by
  unfold RdN at b
  rw [if_pos (show cellD (.lst _) = true from rfl)] at b
  obtain ⟨p, ob, rfl, h1, ⟨vs, rfl, h2⟩, h3⟩ := b
  exact ⟨p, vs, rfl, h1, h2, h3⟩
theorem vi_zip {elts : List Expr} {kk : Nat} (hp : PI X tg iter (iZip X.K (trX2 X Γ Γ1 Γ' W ev1 ev2))) : VI X Γ Γ' W tg iter (eZip ev1 ev2) :=
  piImp hp fun σ H R ⟨ρ, F, r, q⟩ => ⟨ρ, F, r, Res.sat_bind.mpr (Res.sat_imp (Res.sat_bind.mp q) (fun z _ q v H1 F1 e1 r1 b1 => ⟨z.2, F1, r1, Res.sat_bind.mpr (Res.sat_imp (Res.sat_bind.mp q) (fun y _ q w H2 F2 e2 r2 b2 => by
    cases hz : z.1 <;> rw [hz] at q <;> first | exact q.elim | skip
    cases hy : y.1 <;> rw [hy] at q <;> first | exact q.elim | skip
    have b1 : RdN X.K X.mg (Own Γ1 z.2 σ) H1 F1 v z.1 := b1
    have b2 : RdN X.K X.mg (Own Γ' y.2 σ) H2 F2 w y.1 := b2
    have b1 := b1.evo e2
    rw [hz] at b1
    rw [hy] at b2
    obtain ⟨p, vs, rfl, h1, h2, h3⟩ := lstN b1
    obtain ⟨p2, vs2, rfl, h4, h5, h6⟩ := lstN b2
    exact ⟨p, p2, vs, vs2, rfl, .of h1, .of h4, q _ H2 F2 (e1.trans e2) r2 (walks_zip h1 h2 h3 h4 h5 h6)⟩) fun _ h => h.evo e1)⟩) fun _ h => h)⟩
end
end VL

set_option Elab.async false
set_option linter.all false
set_option maxRecDepth 100000
/-! VL34: list(range(n)). -/
namespace VL
open PySem PySem.Spec PyProof.Rows L2
section
variable {K : PySem.W.Frag} {mg : Str → Option Value} {H F : Hp}
theorem reps_intsV : ∀ ns : List Int, reps K mg F (ns.map D.int) (ns.map V.int)
  | [] => reps_nil
  | n :: ns => reps_cons (by simp only [rep]) (reps_intsV ns)
def fListRng : List D → Option D
  | [.int n] => if n ≤ 16777216 ∧ -16777216 ≤ n then some (.lst ((List.range n.toNat).map fun k : Nat => D.int (k : Nat))) else none
  | _ => none
def rListRng : List V → Hp → VK → Prop := fun vs H Q => ∃ n, vs = [V.int n] ∧ RgOk 0 n ∧ ∀ q, H q = none → Q (.ref q) (upd H q (.lst (rgV 0 n)))
theorem c_listRng : CallF K mg fListRng rListRng .own := by
  intro H F vs ds d Q s r hf q
  unfold fListRng at hf
  split at hf
  · split at hf <;> cases hf
    rename_i n hn
    obtain ⟨v, w, rfl, h1, rfl⟩ := r
    rw [h1.int]
    refine ⟨n, rfl, ⟨by omega, by omega, by omega, by omega, by omega⟩, fun p hp => ?_⟩
    have e1 : rgV 0 n = ((List.range n.toNat).map fun k : Nat => (k : Int)).map V.int := by
      unfold rgV
      rw [List.map_map, Int.sub_zero]
      exact List.map_congr_left fun k _ => by simp
    have e2 : ((List.range n.toNat).map fun k : Nat => D.int (k : Nat)) = ((List.range n.toNat).map fun k : Nat => (k : Int)).map D.int := by rw [List.map_map]; rfl
    have rr : reps K mg F ((List.range n.toNat).map fun k : Nat => D.int (k : Nat)) (rgV 0 n) := by rw [e1, e2]; exact reps_intsV _
    exact q _ _ F (Grow.newO s hp) (.newL hp s rr)
  · cases hf
end
section
variable {X : Cx} {Γ Γ' : Gm} {W : WE} {a : Expr} {ar : Arg} {p p2 pos pos2 : Pos}
theorem tr_one {σ : St} {H : Hp} {Q : List V → Hp → Prop} (h : trA X Γ Γ' W [ar] σ H Q) : trArg X Γ Γ' W ar σ H fun v H1 => Q [v] H1 := by
  obtain ⟨ρ, F, r, q⟩ := h
  refine ⟨ρ, F, r, Res.sat_imp (Res.sat_bind.mp q) (fun z _ q v H1 F1 e1 r1 b1 => ?_) fun _ h => h⟩
  exact q [v] H1 F1 e1 r1 ⟨_, _, _, _, rfl, rfl, b1, rfl, rfl⟩
theorem ve_listRng1 (hc : X.calm = true) (hg : Gl X "list") (hm : X.mg "list" = none) (hg2 : Gl X "range") (hm2 : X.mg "range" = none) (ha : VAr X Γ Γ' W a ar) (na : starEach [a] X.env = (false, eval a X.env) :: starEach [] X.env := by rfl) (na2 : starEach [.Call (.Name "range" p2) [a] [] pos2] X.env = (false, eval (.Call (.Name "range" p2) [a] [] pos2) X.env) :: starEach [] X.env := by rfl) :
    VE X Γ Γ' W (.Call (.Name "list" p) [.Call (.Name "range" p2) [a] [] pos2] [] pos) .own (eCall fListRng [ar]) :=
  peImp (pe_listRg hc hg hm (prg_1 hg2 hm2 ha na) na2) fun σ H Q h => by
    have t := tr_one (call_tr c_listRng h)
    obtain ⟨ρ, F, r, q⟩ := t
    refine ⟨ρ, F, r, Res.sat_imp q (fun z _ q v H1 F1 e1 r1 b1 => ?_) fun _ h => h⟩
    obtain ⟨n, e, h1, h2⟩ := q v H1 F1 e1 r1 b1
    cases e
    exact ⟨n, rfl, h1, h2⟩
end
end VL

set_option Elab.async false
set_option linter.all false
set_option maxRecDepth 100000
/-! VL35: chains of three comparisons (the first middle one a slot), list.count of whole numbers, list.insert, bool(..). -/
namespace VL
open PySem PySem.Spec PyProof.Rows L2
section
variable {X : Cx} {Γ Γ' Γ1 Γ2 Γ3 : Gm} {W : WE} {e a b c d : Expr} {pos : Pos} {m : Md} {ev : Ev} {et : Et} {oa ob oc od : Opd} {f f' f'' : D → D → Option D} {r r' r'' : R2} {i : Nat}
def tChain3 (r r' r'' : R2) (ta tb tc td : TE) : TE := fun σ H Q => ta σ H fun x H1 => tb σ H1 fun y H2 => r x y H2 fun z H3 => ∃ k, z = .bl k ∧
  (if k = true then tc σ H3 fun w H4 => r' y w H4 fun z' H5 => ∃ k', z' = .bl k' ∧ (if k' = true then td σ H5 fun u H6 => r'' w u H6 Q else Q (.bl false) H5) else Q (.bl false) H3)
theorem pe_chain3 {op op' op'' : CmpOp} (ho : OpR X (compareOp op) r) (ho' : OpR X (compareOp op') r') (ho'' : OpR X (compareOp op'') r'') {ta tb tc td : TE} (ha : PE X a ta) (hb : PE X b tb) (hc : PE X c tc) (hd : PE X d td)
    (hm : lastMarks [op, op', op''] [b, c, d] = false := by with_unfolding_all rfl) : PE X (.Compare a [op, op', op''] [b, c, d] pos) (tChain3 r r' r'' ta tb tc td) := by
  refine ⟨fun pins s σ H Q I h => ?_⟩
  refine Compare_chain (thn (ha.run pins s σ H _ I h) fun v s1 ⟨x, H1, I1, r1, q1⟩ => chain_link (thn (hb.run pins s1 σ H1 _ I1 q1) fun u s2 ⟨y, H2, I2, r2, q2⟩ =>
    thn (ho pins s2 σ H2 x y v u _ I2 r1 r2 q2) fun _ s3 ⟨z, H3, I3, r3, k, e, q3⟩ => ?_)) hm
  subst e
  cases r3
  refine wpAny_truthy_bool ?_
  cases k with
  | false => exact ite_ff ⟨.bl false, H3, I3, rfl, q3⟩
  | true =>
    refine ite_tt (chain_link (thn (hc.run pins s3 σ H3 _ I3 q3) fun w' s4 ⟨z', H4, I4, r4, q4⟩ => thn (ho' pins s4 σ H4 y z' u w' _ I4 r2 r4 q4) fun _ s5 ⟨z2, H5, I5, r5, k2, e2, q5⟩ => ?_))
    subst e2
    cases r5
    refine wpAny_truthy_bool ?_
    cases k2 with
    | false => exact ite_ff ⟨.bl false, H5, I5, rfl, q5⟩
    | true => exact ite_tt (chain_last (thn (hd.run pins s5 σ H5 _ I5 q5) fun w2 s6 ⟨z3, H6, I6, r6, q6⟩ => ho'' pins s6 σ H6 z' z3 w' w2 Q I6 r4 r6 q6))
theorem pt_chain3 {op op' op'' : CmpOp} (ho : OpR X (compareOp op) r) (ho' : OpR X (compareOp op') r') (ho'' : OpR X (compareOp op'') r'') {ta tb tc td : TE} (ha : PE X a ta) (hb : PE X b tb) (hc : PE X c tc) (hd : PE X d td)
    (hm : lastMarks [op, op', op''] [b, c, d] = false := by with_unfolding_all rfl) : PT X (.Compare a [op, op', op''] [b, c, d] pos) (tTest (tChain3 r r' r'' ta tb tc td)) := by
  refine ⟨fun pins s σ H Q I h => ?_⟩
  refine isTrue_chain (thn (ha.run pins s σ H _ I h) fun v s1 ⟨x, H1, I1, r1, q1⟩ => test_link (thn (hb.run pins s1 σ H1 _ I1 q1) fun u s2 ⟨y, H2, I2, r2, q2⟩ =>
    thn (ho pins s2 σ H2 x y v u _ I2 r1 r2 q2) fun _ s3 ⟨z, H3, I3, r3, k, e, q3⟩ => ?_)) hm
  subst e
  cases r3
  refine wpAny_truthy_bool ?_
  cases k with
  | false =>
    obtain ⟨k', e', q'⟩ := q3
    cases e'
    exact ite_ff ⟨H3, I3, q'⟩
  | true =>
    refine ite_tt (test_link (thn (hc.run pins s3 σ H3 _ I3 q3) fun w' s4 ⟨z', H4, I4, r4, q4⟩ => thn (ho' pins s4 σ H4 y z' u w' _ I4 r2 r4 q4) fun _ s5 ⟨z2, H5, I5, r5, k2, e2, q5⟩ => ?_))
    subst e2
    cases r5
    refine wpAny_truthy_bool ?_
    cases k2 with
    | false =>
      obtain ⟨k', e', q'⟩ := q5
      cases e'
      exact ite_ff ⟨H5, I5, q'⟩
    | true =>
      refine ite_tt (test_last (thn (hd.run pins s5 σ H5 _ I5 q5) fun w2 s6 ⟨z3, H6, I6, r6, q6⟩ => thn (ho'' pins s6 σ H6 z' z3 w' w2 _ I6 r4 r6 q6) fun _ s7 ⟨z4, H7, I7, r7, k3, e3, q7⟩ => ?_))
      subst e3
      cases r7
      exact wpAny_truthy_bool ⟨H7, I7, q7⟩
theorem chain3_tr (hf : OpF X.K X.mg f r .fz) (hf' : OpF X.K X.mg f' r' .fz) (hf'' : OpF X.K X.mg f'' r'' .fz) {σ : St} {H : Hp} {Q : VK} (h : trE X Γ Γ1 W .fz (eAndV (eBin f oa (.slot i)) (eChain f' f'' (.slot i) oc od)) σ H Q) :
    tChain3 r r' r'' (trB X Γ Γ1 W oa) (trB X Γ1 Γ1 W (.slot i)) (trB X Γ1 Γ1 W oc) (trB X Γ1 Γ1 W od) σ H Q := by
  obtain ⟨ρ, F, rl, q⟩ := h
  have q := Res.sat_bind.mp q
  unfold eBin at q
  refine ⟨ρ, F, rl, Res.sat_imp (Res.sat_bind.mp q) (fun p _ q x H1 F1 e1 r1 b1 => ⟨p.2, F1, r1, Res.sat_imp (Res.sat_bind.mp q) (fun s _ q y H2 F2 e2 r2 b2 => ?_) fun _ h => h.evo e1⟩) fun _ h => h⟩
  obtain ⟨dx, hx, q⟩ := fin_sat q
  obtain ⟨dy, hy, q⟩ := fin_sat q
  obtain ⟨d, hd, q⟩ := opt_sat (Res.sat_bind.mp q)
  refine hf H2 F2 x y dx dy d _ r2.sub (b1.fin r2 e2 hx) (b2.fin r2 (Evo.refl r2.sub) hy) hd fun u H3 F3 g n => ?_
  obtain ⟨k, rfl⟩ : ∃ k, d = .bl k := by cases d <;> first | exact ⟨_, rfl⟩ | exact (show False from q).elim
  have n : u = .bl k := n
  subst n
  refine ⟨k, rfl, ?_⟩
  have e13 := (e1.trans e2).trans g.evo
  have r3 := r2.grow g
  have hs : σ[i]? = some (some y) := b2
  cases k with
  | false =>
    rw [if_neg (by decide)]
    exact q _ H3 F3 e13 r3 rfl
  | true =>
    rw [if_pos rfl]
    have h2 : trE X Γ1 Γ1 W .fz (eChain f' f'' (.slot i) oc od) σ H3 Q := ⟨s.2, F3, r3, Res.sat_imp q (fun z _ q v H' F' e' r' vo => q v H' F' (e13.trans e') r' vo) fun _ h => h.evo e13⟩
    obtain ⟨ρ4, F4, r4, q4⟩ := chain_tr (Γ1 := Γ1) hf' hf'' h2
    obtain ⟨d0, e0, q4⟩ := gv_sat (Res.sat_bind.mp q4)
    exact q4 y H3 F4 (Evo.refl r4.sub) r4 hs
theorem ve_chain3 {op op' op'' : CmpOp} (ho : OpR X (compareOp op) r) (ho' : OpR X (compareOp op') r') (ho'' : OpR X (compareOp op'') r'') (hf : OpF X.K X.mg f r .fz) (hf' : OpF X.K X.mg f' r' .fz) (hf'' : OpF X.K X.mg f'' r'' .fz) (ha : VB X Γ Γ1 W a oa) (hb : VB X Γ1 Γ1 W b (.slot i)) (hc : VB X Γ1 Γ1 W c oc) (hd : VB X Γ1 Γ1 W d od)
    (hm : lastMarks [op, op', op''] [b, c, d] = false := by with_unfolding_all rfl) : VE X Γ Γ1 W (.Compare a [op, op', op''] [b, c, d] pos) .fz (eAndV (eBin f oa (.slot i)) (eChain f' f'' (.slot i) oc od)) :=
  peImp (pe_chain3 ho ho' ho'' ha hb hc hd hm) fun _ _ _ h => chain3_tr hf hf' hf'' h
theorem vt_chain3 {op op' op'' : CmpOp} (ho : OpR X (compareOp op) r) (ho' : OpR X (compareOp op') r') (ho'' : OpR X (compareOp op'') r'') (hf : OpF X.K X.mg f r .fz) (hf' : OpF X.K X.mg f' r' .fz) (hf'' : OpF X.K X.mg f'' r'' .fz) (ha : VB X Γ Γ1 W a oa) (hb : VB X Γ1 Γ1 W b (.slot i)) (hc : VB X Γ1 Γ1 W c oc) (hd : VB X Γ1 Γ1 W d od)
    (hm : lastMarks [op, op', op''] [b, c, d] = false := by with_unfolding_all rfl) : VT X Γ Γ1 W (.Compare a [op, op', op''] [b, c, d] pos) (eTB (eAndV (eBin f oa (.slot i)) (eChain f' f'' (.slot i) oc od))) :=
  ptImp (pt_chain3 ho ho' ho'' ha hb hc hd hm) fun _ _ _ h => chain3_tr hf hf' hf'' (trT_of h)
/-! ### list.count -/
def mCount : List D → List D → Option D
  | l, [.int k] => (intsOf l).map fun ns => .int (ns.count k : Nat)
  | _, _ => none
theorem m_count {K : PySem.W.Frag} {mg : Str → Option Value} : MthF K mg mCount (rCntI K) := by
  intro H F v l vs ds u Q s rl rd hf q
  unfold mCount at hf
  split at hf
  · rename_i k
    cases hi : intsOf l with
    | none => rw [hi] at hf; cases hf
    | some ns =>
      rw [hi] at hf; cases hf
      obtain ⟨vx, w, rfl, hx, rfl⟩ := rd
      obtain ⟨p, ws, rfl, hp, hws⟩ := rl.lst
      have rx := hx.int
      subst rx
      have e := intsOf_ok hi
      subst e
      rw [reps_ints hws] at hp
      exact ⟨p, ns, k, rfl, rfl, .of hp, q _ rfl rfl⟩
  · cases hf
/-! ### list.insert -/
def rInsert : V → List V → Hp → VK → Prop := fun x vs H Q => ∃ (l : Addr) (xs : List V) (i : Int) (y : V), x = .ref l ∧ vs = [.int i, y] ∧ H l = some (.lst xs) ∧ xs.length < sizeLine ∧ 0 ≤ i ∧ i < 2 ^ 63 ∧
    Q .non (upd H l (.lst (xs.take i.toNat ++ [y] ++ xs.drop i.toNat)))
def mInsert : List D → List D → Option (List D × D)
  | l, [.int i, d] => if l.length < 16777216 ∧ 0 ≤ i ∧ i ≤ 16777216 then some (l.take i.toNat ++ [d] ++ l.drop i.toNat, .non) else none
  | _, _ => none
theorem m_insert {K : PySem.W.Frag} {mg : Str → Option Value} : MtF K mg mInsert rInsert := by
  intro H F p ws l ds vs l' u Q s hp rl rd hf q
  unfold mInsert at hf
  split at hf
  · split at hf <;> cases hf
    rename_i i d hl
    simp only [reps] at rd
    obtain ⟨v, w, rfl, h1, v2, w2, rfl, h2, rfl⟩ := rd
    simp only [rep] at h1
    subst h1
    exact ⟨p, ws, i, v2, rfl, rfl, hp, by rw [sizeLine_eq, reps_length rl]; exact hl.1, hl.2.1, by omega, q _ _ (reps_append (reps_append (reps_take _ rl) (reps_one h2)) (reps_drop _ rl)) rfl⟩
  · cases hf
/-! ### bool(..) -/
def fBool : List D → Option D
  | [.int i] => some (.bl (i != 0))
  | [.bl k] => some (.bl k)
  | _ => none
theorem c_bool {K : PySem.W.Frag} {mg : Str → Option Value} : CallF K mg fBool (fun xs H Q => (∃ i, xs = [.int i] ∧ Q (.bl (i != 0)) H) ∨ ∃ k, xs = [.bl k] ∧ Q (.bl k) H) .fz := by
  intro H F vs ds d Q s r hf q
  unfold fBool at hf
  split at hf <;> cases hf
  · obtain ⟨v, w, rfl, h1, rfl⟩ := r
    rw [h1.int]
    exact .inl ⟨_, rfl, q _ H F (Grow.refl s) (.atom rfl rfl)⟩
  · obtain ⟨v, w, rfl, h1, rfl⟩ := r
    rw [h1.bl]
    exact .inr ⟨_, rfl, q _ H F (Grow.refl s) (.atom rfl rfl)⟩
end
end VL

set_option Elab.async false
set_option linter.all false
set_option maxRecDepth 100000
set_option maxHeartbeats 1000000
/-! VL39: zip of three: a text and two tuples. -/
namespace VL
open PySem PySem.Spec PyProof.Rows L2
/-- a text x and the tuples at a and b, the items in new triples -/
def ItzS (K : PySem.W.Frag) (x : Str) (a b : Addr) : It :=
  ⟨fun i H => ∃ (c : Nat) (xs ys : List V) (y z : V), x.cps[i]? = some c ∧ SqT K H a xs ∧ SqT K H b ys ∧ xs[i]? = some y ∧ ys[i]? = some z,
    fun i H v H' => ∃ T c y z, v = .ref T ∧ H T = none ∧ H' = upd H T (.tup [.str ⟨#[c]⟩, y, z]) ∧ x.cps[i]? = some c ∧ (∀ xs, SqT K H a xs → xs[i]? = some y) ∧ ∀ ys, SqT K H b ys → ys[i]? = some z,
    fun i H => i ≤ x.cps.size ∧ ∃ xs ys : List V, SqT K H a xs ∧ SqT K H b ys ∧ i ≤ xs.length ∧ i ≤ ys.length ∧ (i = x.cps.size ∨ i = xs.length ∨ i = ys.length)⟩
theorem turn_zipS {P : Program} {w : World} {K : PySem.W.Frag} {elts : List Expr} {kk : Nat} {tpos : Pos} {a b z TI TO i1 i2 i3 : Addr} {x : Str} {t : Tok} (D : ZipSep3 z TI TO i1 i2 i3 [i1] [i2, a] [i3, b]) (ha : a ≠ i2) (hb : b ≠ i3) :
    Turn P w K (.Tuple elts kk tpos) (ItzS K x a b) [z, TI, TO, i1, i2, i3] z (fun i h => IsZip h z TI TO .none ∧ IsTupOf3 h TI (.ref i1) (.ref i2) (.ref i3) ∧ (∃ x y u, IsTupOf3 h TO x y u) ∧ h.IsStrIter i1 (strIterType x) x t i ∧ h.IsTupleIter i2 a i ∧ h.IsTupleIter i3 b i) where
  mem := by simp
  obj := fun i h st c hc => by
    obtain ⟨hz, hTI, ⟨x, y, u, hTO⟩, ⟨o1, e1, _, d1⟩, ⟨o2, e2, _, d2⟩, ⟨o3, e3, _, d3⟩⟩ := st
    have e' : c = z ∨ c = TI ∨ c = TO ∨ c = i1 ∨ c = i2 ∨ c = i3 := by simpa using hc
    rcases e' with q | q | q | q | q | q
    · rw [q]; exact ⟨_, hz, fun v q => nomatch q⟩
    · rw [q]; exact ⟨_, hTI, fun v q => nomatch q⟩
    · rw [q]; exact ⟨_, hTO, fun v q => nomatch q⟩
    · rw [q]; exact ⟨o1, e1, fun v q => by rw [d1] at q; cases q⟩
    · rw [q]; exact ⟨o2, e2, fun v q => by rw [d2] at q; cases q⟩
    · rw [q]; exact ⟨o3, e3, fun v q => by rw [d3] at q; cases q⟩
  keep := fun i h h' st k => by
    obtain ⟨hz, hTI, ⟨x, y, u, hTO⟩, ⟨o1, e1, r1⟩, h2, h3⟩ := st
    exact ⟨k z (by simp) _ hz, k TI (by simp) _ hTI, ⟨x, y, u, k TO (by simp) _ hTO⟩, ⟨o1, k i1 (by simp) _ e1, r1⟩, h2.at fun o q => k i2 (by simp) o q, h3.at fun o q => k i3 (by simp) o q⟩
  item := by
    intro X hP hw hK hc i pins s σ H E I hf st hg
    subst hP hw hK
    obtain ⟨hz, hTI, ⟨x0, y0, u0, hTO⟩, h1, h2, h3⟩ := st
    obtain ⟨c, xs, ys, y, u, hcx, hqx, hqy, hx, hy⟩ := hg
    obtain ⟨its, rv, p, _⟩ := I.tuple hqx
    obtain ⟨its2, rv2, p2, _⟩ := I.tuple hqy
    obtain ⟨v1, hv1, ru⟩ := rv.get hx
    obtain ⟨v2, hv2, ru2⟩ := rv2.get hy
    have hzl : z < s.heap.objs.size := Heap.lt_size hz
    have hh := I.ok.hd hc
    have D1 : Draws X.prog X.w X.A.in1 i1 [i1] x.cps.size (fun i v => ∃ c u, x.cps[i]? = some c ∧ v = .str ⟨#[c]⟩ u) (fun i h => h.IsStrIter i1 (strIterType x) x t i) := Draws.text (A := X.A.in1) hh i1 x t
    have D2 := Draws.tuple (prog := X.prog) (w := X.w) (A := X.A.in1) hh i2 a ha its.toArray
    have D3 := Draws.tuple (prog := X.prog) (w := X.w) (A := X.A.in1) hh i3 b hb its2.toArray
    have n1 : i < x.cps.size := (Array.getElem?_eq_some_iff.mp hcx).1
    have n2 : i < its.toArray.size := by rw [List.size_toArray]; exact (List.getElem?_eq_some_iff.mp hv1).1
    have n3 : i < its2.toArray.size := by rw [List.size_toArray]; exact (List.getElem?_eq_some_iff.mp hv2).1
    refine wpAny_pyNext_zipD3_item D D1 D2 D3 hz hTI hTO h1 ⟨h2, p⟩ ⟨h3, p2⟩ n1 n2 n3 fun x1 x2 x3 h' tk y1 y2 y3 z' TO' h1' h2' h3' hT hsz hk => ?_
    obtain ⟨c', tt, ec, rfl⟩ := y1
    rw [hcx] at ec; cases ec
    have y2 : its.toArray[i]? = some x2 := y2
    have y3 : its2.toArray[i]? = some x3 := y3
    rw [show its.toArray[i]? = its[i]? by simp, hv1] at y2; cases y2
    rw [show its2.toArray[i]? = its2[i]? by simp, hv2] at y3; cases y3
    refine ⟨_, rfl, wpAny_letOwnedTupleGo_zip (s := { s with heap := h', toks := tk }) z' fun h'' z'' sb => ?_⟩
    have hT2 : h''.get? s.heap.objs.size = some { cls := .type "tuple", data := .seq #[.str ⟨#[c]⟩ tt, v1, v2] } := (sb.2 _ (Nat.ne_of_gt hzl)).trans hT
    have new : ObjOk X.prog X.w (upd H s.heap.objs.size (.tup [.str ⟨#[c]⟩, y, u])) h'' s.heap.objs.size (.tup [.str ⟨#[c]⟩, y, u]) :=
      ⟨by show 3 ≤ sizeLine; decide, [.str ⟨#[c]⟩ tt, v1, v2], .cons ⟨tt, rfl⟩ (.cons ru (.cons ru2 .nil)), ⟨_, hT2, rfl, _, rfl⟩⟩
    have I1 : Inv X pins σ (upd H s.heap.objs.size (.tup [.str ⟨#[c]⟩, y, u])) { s with heap := h'', toks := tk } :=
      I.turnedNew (t' := tk) (ch := [z, TI, TO, i1, i2, i3]) (fun c o hb q => (sb.2 c (fun q' => hb (by simp [q']))).trans (hk c o (fun q' => hb (by simp [q'])) (fun q' => hb (by simp [q'])) (fun q' => hb (by simp [q'])) (fun q' => hb (by simp [q'])) (fun q' => hb (by simp [q'])) q)) hf (Nat.le_refl _) new
    refine ⟨.ref s.heap.objs.size, _, I1, rfl, ⟨_, c, y, u, rfl, I.hok.fresh (Nat.le_refl _), rfl, hcx, fun l hl => by rw [I.tuple_inj hl hqx]; exact hx, fun l hl => by rw [I.tuple_inj hl hqy]; exact hy⟩, ⟨z'', ?_, ⟨.str ⟨#[c]⟩ tt, v1, v2, ?_⟩, ?_, ?_, ?_⟩, fun c hcm => ?_⟩
    · exact (sb.2 _ D.TIz).trans (hk _ _ D.TIz D.TITO D.TIi1 D.TIi2 D.TIi3 hTI)
    · exact (sb.2 _ D.TOz).trans TO'
    · obtain ⟨o, e, r⟩ := h1'
      exact ⟨o, (sb.2 _ D.zi1.symm).trans e, r⟩
    · exact h2'.1.at fun o q => (sb.2 _ D.zi2.symm).trans q
    · exact h3'.1.at fun o q => (sb.2 _ D.zi3.symm).trans q
    · have hlt : c < s.heap.objs.size := by
        have e' : c = z ∨ c = TI ∨ c = TO ∨ c = i1 ∨ c = i2 ∨ c = i3 := by simpa using hcm
        rcases e' with q | q | q | q | q | q
        · rw [q]; exact hzl
        · rw [q]; exact Heap.lt_size hTI
        · rw [q]; exact Heap.lt_size hTO
        · rw [q]; obtain ⟨_, e1, _⟩ := h1; exact Heap.lt_size e1
        · rw [q]; obtain ⟨_, e2, _⟩ := h2; exact Heap.lt_size e2
        · rw [q]; obtain ⟨_, e3, _⟩ := h3; exact Heap.lt_size e3
      rw [upd_ne (Nat.ne_of_lt hlt)]
      exact (hf c hcm).1
  done := by
    intro X hP hw hK hc i pins s σ H E I hf st hg
    subst hP hw hK
    obtain ⟨hz, hTI, ⟨x0, y0, u0, hTO⟩, h1, h2, h3⟩ := st
    obtain ⟨l1, xs, ys, hqx, hqy, l2, l3, hend⟩ := hg
    obtain ⟨its, rv, p, _⟩ := I.tuple hqx
    obtain ⟨its2, rv2, p2, _⟩ := I.tuple hqy
    have e1 := rv.length
    have e2 := rv2.length
    have hh := I.ok.hd hc
    have D1 : Draws X.prog X.w X.A.in1 i1 [i1] x.cps.size (fun i v => ∃ c u, x.cps[i]? = some c ∧ v = .str ⟨#[c]⟩ u) (fun i h => h.IsStrIter i1 (strIterType x) x t i) := Draws.text (A := X.A.in1) hh i1 x t
    have D2 := Draws.tuple (prog := X.prog) (w := X.w) (A := X.A.in1) hh i2 a ha its.toArray
    have D3 := Draws.tuple (prog := X.prog) (w := X.w) (A := X.A.in1) hh i3 b hb its2.toArray
    exact wpAny_pyNext_zipD3_end D D1 D2 D3 hz hTI hTO h1 ⟨h2, p⟩ ⟨h3, p2⟩ l1 (by rw [List.size_toArray]; omega) (by rw [List.size_toArray]; omega) (by have := List.size_toArray (as := its); have := List.size_toArray (as := its2); omega) fun h' tk hk => ⟨rfl, I.turnedL (t' := tk) (ch := [z, TI, TO, i1, i2, i3]) (fun c o hb q =>
      hk c o (fun q' => hb (by simp [q'])) (fun q' => hb (by simp [q'])) (fun q' => hb (by simp [q'])) (fun q' => hb (by simp [q'])) (fun q' => hb (by simp [q'])) q) hf⟩
  self := fun A i s Q E st h => wpAny_pyIter_zip st.1 h
def iZipS (K : PySem.W.Frag) (ta : TA) : TI := fun σ H R => ta σ H fun vs H1 => ∃ x a b xs ys, vs = [.str x, .ref a, .ref b] ∧ SqT K H1 a xs ∧ SqT K H1 b ys ∧ R (ItzS K x a b) H1
theorem pi_zipS {X : Cx} {e e2 e3 : Expr} {ta : TA} {p pos tpos : Pos} {elts : List Expr} {kk : Nat} (hg : Gl X "zip") (hm : X.mg "zip" = none) (ha : PA X [e, e2, e3] ta)
    (hs : starEach [e, e2, e3] X.env = (false, eval e X.env) :: starEach [e2, e3] X.env := by rfl) (hpl : (backTo pos (starEach [e2, e3] X.env)).any (·.1) = false := by rfl) :
    PI X (.Tuple elts kk tpos) (.Call (.Name "zip" p) [e, e2, e3] [] pos) (iZipS X.K ta) := by
  refine ⟨fun pins s σ H R I h => ?_⟩
  refine Call_ (ld_blt I hg hm PyProof.Rows.boot_zip (PyProof.Rows.callWith_type1 (thn (ha.run pos pins s σ H _ I h) fun us s1 ⟨vs, H1, I1, r1, q1⟩ => ?_) hs hpl))
  obtain ⟨x, a, b, xs, ys, ex, hqx, hqy, q⟩ := q1
  subst ex
  cases r1 with
  | cons r rr =>
    cases rr with
    | cons r' rr =>
      cases rr with
      | cons r'' rr =>
        cases rr
        obtain ⟨t, rfl⟩ := r
        cases r'
        cases r''
        obtain ⟨its, rv, p1, _⟩ := I1.tuple hqx
        obtain ⟨its2, rv2, p2, _⟩ := I1.tuple hqy
        obtain ⟨o1, ho1, _⟩ := id p1
        obtain ⟨o2, ho2, _⟩ := id p2
        have la := Heap.lt_size ho1
        have lb := Heap.lt_size ho2
        refine zip_begins3 (begins_text x t) (begins_tuple a its.toArray) (begins_tuple b its2.toArray) trivial p1 p2 fun h' hz hTI hTO h1 h2 h3 hsz hk => wpAny_pyIter_zip hz ?_
        have I2 : Inv X pins σ H1 { s1 with heap := h' } := I1.kept (t' := s1.toks) hk
        refine ⟨s1.heap.objs.size + 5, [s1.heap.objs.size + 5, s1.heap.objs.size + 3, s1.heap.objs.size + 4, s1.heap.objs.size, s1.heap.objs.size + 1, s1.heap.objs.size + 2], _, _, H1, rfl, I2, turn_zipS (t := t) (zip_sep3 (by simp) (by simpa using la) (by simpa using lb)) (Nat.ne_of_lt (Nat.lt_of_lt_of_le la (Nat.le_add_right _ _))) (Nat.ne_of_lt (Nat.lt_of_lt_of_le lb (Nat.le_add_right _ _))), ⟨hz, hTI, ⟨_, _, _, hTO⟩, ⟨_, h1, rfl, rfl⟩, ⟨_, h2, rfl, rfl⟩, ⟨_, h3, rfl, rfl⟩⟩, fun c hcm => ?_, q⟩
        have e' : c = s1.heap.objs.size + 5 ∨ c = s1.heap.objs.size + 3 ∨ c = s1.heap.objs.size + 4 ∨ c = s1.heap.objs.size ∨ c = s1.heap.objs.size + 1 ∨ c = s1.heap.objs.size + 2 := by simpa using hcm
        have hle : s1.heap.objs.size ≤ c := by
          rcases e' with z | z | z | z | z | z <;> rw [z] <;> first | exact Nat.le_refl _ | exact Nat.le_add_right _ _
        exact I1.fpOk hle (I1.hok.fresh hle)
def zipS : List Nat → List D → List D → List D
  | c :: x, a :: l, b :: m => .tup [.str [c], a, b] :: zipS x l m
  | _, _, _ => []
theorem zipS_get : ∀ (x : List Nat) (l m : List D) (i : Nat), (zipS x l m)[i]? = (match x[i]?, l[i]?, m[i]? with
    | some c, some a, some b => some (.tup [.str [c], a, b])
    | _, _, _ => none)
  | [], l, m, i => by simp [zipS]
  | c :: x, [], m, i => by simp only [zipS, List.getElem?_nil]; split <;> simp_all
  | c :: x, a :: l, [], i => by simp only [zipS, List.getElem?_nil]; split <;> simp_all
  | c :: x, a :: l, b :: m, 0 => by simp [zipS]
  | c :: x, a :: l, b :: m, i + 1 => by simp only [zipS, List.getElem?_cons_succ]; exact zipS_get x l m i
theorem zipS_len : ∀ (x : List Nat) (l m : List D), (zipS x l m).length = min x.length (min l.length m.length)
  | [], l, m => by simp [zipS]
  | c :: x, [], m => by simp [zipS]
  | c :: x, a :: l, [] => by simp [zipS]
  | c :: x, a :: l, b :: m => by simp only [zipS, List.length_cons, zipS_len x l m]; omega
section
variable {K : PySem.W.Frag} {mg : Str → Option Value} {O O' : Ft} {H F H' F' : Hp} {l m : List D} {p q : Addr} {vs ws : List V} {x : List Nat}
theorem walks_zipS (hF : SqT K F p vs) (hr : reps K mg F l vs) (hF2 : SqT K F q ws) (hr2 : reps K mg F m ws) : Walks K mg (ItzS K ⟨x.toArray⟩ p q) (zipS x l m) O H F := by
  refine ⟨fun _ _ F => (SqT K F p vs ∧ reps K mg F l vs) ∧ (SqT K F q ws ∧ reps K mg F m ws), ⟨⟨hF, hr⟩, hF2, hr2⟩, fun O1 H1 F1 O2 H2 F2 g e => ⟨⟨Same.sqT e.sf g.1.1, reps_mono e.sf g.1.2⟩, Same.sqT e.sf g.2.1, reps_mono e.sf g.2.2⟩, ?_⟩
  rintro i O H F ⟨⟨g1, g2⟩, g3, g4⟩ s
  have k1 := Same.sqT s g1
  have k3 := Same.sqT s g3
  have l2 := reps_length g2
  have l4 := reps_length g4
  refine ⟨fun d hd => ?_, fun e => ?_⟩
  · rw [zipS_get] at hd
    cases hc : x[i]? with
    | none => rw [hc] at hd; cases hd
    | some c =>
      cases hc1 : l[i]? with
      | none => rw [hc, hc1] at hd; cases hd
      | some c1 =>
        cases hc2 : m[i]? with
        | none => rw [hc, hc1, hc2] at hd; cases hd
        | some c2 =>
          rw [hc, hc1, hc2] at hd; cases hd
          obtain ⟨v, h1, h2⟩ := reps_get g2 hc1
          obtain ⟨v2, h3, h4⟩ := reps_get g4 hc2
          refine ⟨⟨c, vs, ws, v, v2, by simpa using hc, k1, k3, h1, h3⟩, fun y H' ⟨T, c', y1, y2, e1, e2, e3, e4, e5, e6⟩ => ?_⟩
          subst e1 e3
          have a0 : x[i]? = some c' := by simpa using e4
          rw [hc] at a0; cases a0
          have a1 := e5 vs k1
          rw [h1] at a1; cases a1
          have a2 := e6 ws k3
          rw [h3] at a2; cases a2
          exact ⟨_, Grow.newF s e2, rep_tup_new e2 s (reps_cons (by unfold rep; rfl) (reps_cons h2 (reps_one h4)))⟩
  · rw [zipS_len] at e
    refine ⟨by simp; omega, vs, ws, k1, k3, by omega, by omega, ?_⟩
    simp only [List.size_toArray]
    omega
end
section
variable {X : Cx} {Γ Γ' Γ1 Γ2 : Gm} {W : WE} {tg iter a b c : Expr} {pos : Pos} {ev1 ev2 ev3 : Ev}
def eZipS (f g h : Ev) : Eit := fun ρ => (f ρ).bind fun r => (g r.2).bind fun q => (h q.2).bind fun t => match r.1, q.1, t.1 with
  | .str x, .tup l, .tup m => .ok (zipS x l m, t.2)
  | _, _, _ => .bad
def trX3 (X : Cx) (Γ Γ1 Γ2 Γ' : Gm) (W : WE) (f g h : Ev) : TA := fun σ H Q => trB X Γ Γ1 W (.ex f) σ H fun v H1 => trB X Γ1 Γ2 W (.ex g) σ H1 fun w H2 => trB X Γ2 Γ' W (.ex h) σ H2 fun u H3 => Q [v, w, u] H3
theorem pa_three (h : VB X Γ Γ1 W a (.ex ev1)) (h2 : VB X Γ1 Γ2 W b (.ex ev2)) (h3 : VB X Γ2 Γ' W c (.ex ev3)) (hs : starEach [a, b, c] X.env = (false, eval a X.env) :: starEach [b, c] X.env := by rfl) (hs2 : starEach [b, c] X.env = (false, eval b X.env) :: starEach [c] X.env := by rfl) (hs3 : starEach [c] X.env = (false, eval c X.env) :: starEach [] X.env := by rfl) : PA X [a, b, c] (trX3 X Γ Γ1 Γ2 Γ' W ev1 ev2 ev3) :=
  paImp (pa_cons h (pa_cons h2 (pa_cons h3 pa_nil hs3) hs2) hs) fun σ H Q h => h
theorem strN {K : PySem.W.Frag} {mg : Str → Option Value} {O : Ft} {H F : Hp} {v : V} {x : List Nat} (b : RdN K mg O H F v (.str x)) : v = .str ⟨x.toArray⟩ := by
  have b := b.rdd
  have := Rdd.of_rep rfl b
  simpa only [rep] using this
theorem vi_zipS {elts : List Expr} {kk : Nat} (hp : PI X tg iter (iZipS X.K (trX3 X Γ Γ1 Γ2 Γ' W ev1 ev2 ev3))) : VI X Γ Γ' W tg iter (eZipS ev1 ev2 ev3) :=
  piImp hp fun σ H R ⟨ρ, F, r, q⟩ => ⟨ρ, F, r, Res.sat_bind.mpr (Res.sat_imp (Res.sat_bind.mp q) (fun z _ q v H1 F1 e1 r1 b1 => ⟨z.2, F1, r1, Res.sat_bind.mpr (Res.sat_imp (Res.sat_bind.mp q) (fun y _ q w H2 F2 e2 r2 b2 => ⟨y.2, F2, r2, Res.sat_bind.mpr (Res.sat_imp (Res.sat_bind.mp q) (fun t _ q u H3 F3 e3 r3 b3 => by
    cases hz : z.1 <;> rw [hz] at q <;> first | exact q.elim | skip
    cases hy : y.1 <;> rw [hy] at q <;> first | exact q.elim | skip
    cases ht : t.1 <;> rw [ht] at q <;> first | exact q.elim | skip
    have b1 : RdN X.K X.mg (Own Γ1 z.2 σ) H1 F1 v z.1 := b1
    have b2 : RdN X.K X.mg (Own Γ2 y.2 σ) H2 F2 w y.1 := b2
    have b3 : RdN X.K X.mg (Own Γ' t.2 σ) H3 F3 u t.1 := b3
    have b2 := b2.evo e3
    rw [hz] at b1
    rw [hy] at b2
    rw [ht] at b3
    have e := strN b1
    subst e
    obtain ⟨p, vs, rfl, h1, h2⟩ := Rdd.tup b2.rdd
    obtain ⟨p2, vs2, rfl, h4, h5⟩ := Rdd.tup b3.rdd
    exact ⟨_, p, p2, vs, vs2, rfl, Same.sqT r3.sub h1, Same.sqT r3.sub h4, q _ H3 F3 (e1.trans (e2.trans e3)) r3 (walks_zipS h1 h2 h4 h5)⟩) fun _ h => h.evo (e1.trans e2))⟩) fun _ h => h.evo e1)⟩) fun _ h => h)⟩
end
end VL

set_option Elab.async false
set_option linter.all false
set_option maxRecDepth 100000
/-! VL40: sorted(set(xs)), xs a list of tuples of whole numbers. -/
namespace VL
open PySem PySem.Spec PyProof.Rows L2
def dT (k : List Int) : D := .tup (k.map D.int)
def tIs : List D → Option (List (List Int))
  | [] => some []
  | .tup ds :: r => match intsOf ds, tIs r with
    | some k, some ks => some (k :: ks)
    | _, _ => none
  | _ :: _ => none
theorem tIs_ok : ∀ {l : List D} {ks : List (List Int)}, tIs l = some ks → l = ks.map dT
  | [], _, h => by cases h; rfl
  | d :: r, ks, h => by
    cases d <;> simp only [tIs] at h <;> first | (cases h; done) | skip
    rename_i ds
    cases h1 : intsOf ds with
    | none => rw [h1] at h; cases h
    | some k =>
      cases h2 : tIs r with
      | none => rw [h1, h2] at h; cases h
      | some q =>
        rw [h1, h2] at h; cases h
        rw [List.map_cons, ← tIs_ok h2, dT, ← intsOf_ok h1]
@[simp] theorem tIs_map (ks : List (List Int)) : tIs (ks.map dT) = some ks := by
  induction ks with
  | nil => rfl
  | cons k ks ih =>
    show tIs (.tup (k.map D.int) :: ks.map dT) = _
    simp only [tIs, intsOf_map, ih]
/-- the strict order of tuples -/
def ltL : List Int → List Int → Bool
  | [], [] => false
  | [], _ :: _ => true
  | _ :: _, [] => false
  | a :: r, b :: s => decide (a < b) || (decide (a = b) && ltL r s)
theorem ltL_irr : ∀ a, ltL a a = false
  | [] => rfl
  | a :: r => by simp [ltL, ltL_irr r]
theorem ltL_tot : ∀ a b, a ≠ b → ltL a b = !ltL b a
  | [], [], h => absurd rfl h
  | [], _ :: _, _ => rfl
  | _ :: _, [], _ => rfl
  | a :: r, b :: s, h => by
    simp only [ltL]
    by_cases e : a = b
    · subst e
      have hr : r ≠ s := fun z => h (by rw [z])
      simp [ltL_tot r s hr]
    · rcases Int.lt_trichotomy a b with q | q | q
      · have e' : ¬ b = a := fun z => e z.symm
        simp [q, e, e', show ¬ b < a by omega]
      · exact absurd q e
      · have e' : ¬ b = a := fun z => e z.symm
        simp [q, e, e', show ¬ a < b by omega]
theorem ltL_tr : ∀ a b c, ltL a b = true → ltL b c = true → ltL a c = true
  | [], [], c, h, _ => by cases h
  | [], _ :: _, [], _, h => by cases h
  | [], _ :: _, _ :: _, _, _ => rfl
  | _ :: _, [], c, h, _ => by cases h
  | _ :: _, _ :: _, [], _, h => by cases h
  | a :: r, b :: s, c :: t, h1, h2 => by
    simp only [ltL, Bool.or_eq_true, Bool.and_eq_true, decide_eq_true_eq] at h1 h2 ⊢
    rcases h1 with h1 | ⟨h1, h1'⟩ <;> rcases h2 with h2 | ⟨h2, h2'⟩
    · exact .inl (by omega)
    · exact .inl (by omega)
    · exact .inl (by omega)
    · exact .inr ⟨by omega, ltL_tr r s t h1' h2'⟩
theorem code_ltL {B : Int} : ∀ {a b : List Int}, a.length = b.length → TS.Bd B a → TS.Bd B b → (TS.code B a < TS.code B b ↔ ltL a b = true)
  | [], [], _, _, _ => by simp [ltL]
  | [], _ :: _, h, _, _ => by cases h
  | _ :: _, [], h, _, _ => by cases h
  | a :: r, b :: s, h, ha, hb => by
    have hl : r.length = s.length := by simpa using h
    simp only [ltL, Bool.or_eq_true, Bool.and_eq_true, decide_eq_true_eq]
    rcases Int.lt_trichotomy a b with q | q | q
    · exact ⟨fun _ => .inl q, fun _ => TS.code_lt hl ha.tail hb.tail q⟩
    · subst q
      rw [TS.code_same hl, code_ltL hl ha.tail hb.tail]
      exact ⟨fun z => .inr ⟨rfl, z⟩, fun z => z.elim (fun z => by omega) fun z => z.2⟩
    · have := TS.code_lt hl.symm hb.tail ha.tail q
      exact ⟨fun z => by omega, fun z => z.elim (fun z => by omega) fun z => by omega⟩
def dd : List (List Int) → List (List Int)
  | [] => []
  | k :: r => if k ∈ r then dd r else k :: dd r
theorem mem_dd {x : List Int} : ∀ {l : List (List Int)}, x ∈ dd l ↔ x ∈ l
  | [] => Iff.rfl
  | k :: r => by
    unfold dd
    split
    · rename_i h
      rw [mem_dd, List.mem_cons]
      exact ⟨.inr, fun z => z.elim (fun e => by rw [e]; exact h) id⟩
    · rw [List.mem_cons, List.mem_cons, mem_dd]
theorem dd_nd : ∀ {l : List (List Int)}, (dd l).Nodup
  | [] => List.nodup_nil
  | k :: r => by
    unfold dd
    split
    · exact dd_nd
    · rename_i h
      exact List.nodup_cons.mpr ⟨fun z => h (mem_dd.mp z), dd_nd⟩
def sortT (ks : List (List Int)) : List (List Int) := (dd ks).mergeSort fun a b => !ltL b a
theorem sortT_perm (ks : List (List Int)) : (sortT ks).Perm (dd ks) := List.mergeSort_perm _ _
theorem mem_sortT {x : List Int} {ks : List (List Int)} : x ∈ sortT ks ↔ x ∈ ks := ((sortT_perm ks).mem_iff).trans mem_dd
theorem sortT_nd (ks : List (List Int)) : (sortT ks).Nodup := (sortT_perm ks).nodup_iff.mpr dd_nd
theorem leL_tr (a b c : List Int) (h1 : (!ltL b a) = true) (h2 : (!ltL c b) = true) : (!ltL c a) = true := by
  simp only [Bool.not_eq_true'] at *
  by_cases hab : a = b
  · subst hab; exact h2
  · by_cases hbc : b = c
    · subst hbc; exact h1
    · rw [ltL_tot _ _ (fun e => hab e.symm), Bool.not_eq_false'] at h1
      rw [ltL_tot _ _ (fun e => hbc e.symm), Bool.not_eq_false'] at h2
      have := ltL_tr _ _ _ h1 h2
      by_cases hac : c = a
      · subst hac; exact ltL_irr _
      · rw [ltL_tot _ _ hac, this]; rfl
theorem leL_tot (a b : List Int) : ((!ltL b a) || (!ltL a b)) = true := by
  by_cases h : a = b
  · subst h; simp [ltL_irr]
  · rw [ltL_tot _ _ h]; cases ltL b a <;> rfl
theorem sortT_le (ks : List (List Int)) : (sortT ks).Pairwise fun a b => (!ltL b a) = true := List.pairwise_mergeSort leL_tr leL_tot _
theorem leL_eq {a b : List Int} (h1 : (!ltL b a) = true) (h2 : (!ltL a b) = true) : a = b := by
  refine Classical.byContradiction fun h => ?_
  rw [ltL_tot _ _ h] at h2
  simp only [Bool.not_eq_true', Bool.not_not] at h1 h2
  rw [h1] at h2; cases h2
/-- strictly ascending -/
abbrev IncL (l : List (List Int)) : Prop := l.Pairwise fun a b => ltL a b = true
theorem sortT_inc (ks : List (List Int)) : IncL (sortT ks) := ((sortT_le ks).and (sortT_nd ks)).imp fun {a b} ⟨h1, h2⟩ => by
  rw [ltL_tot _ _ h2]; exact h1
theorem IncL.nd {l : List (List Int)} (h : IncL l) : l.Nodup := h.imp fun {a b} q e => by subst e; rw [ltL_irr] at q; cases q
theorem incL_uniq {l m : List (List Int)} (h1 : IncL l) (h2 : IncL m) (e : ∀ x, x ∈ l ↔ x ∈ m) : l = m :=
  List.Perm.eq_of_pairwise (le := fun a b => ltL a b = true) (fun a b _ _ p q => by
    have := ltL_tr _ _ _ p q
    rw [ltL_irr] at this; cases this) h1 h2 ((List.perm_ext_iff_of_nodup h1.nd h2.nd).mpr e)
def dOf (ks : List (List Int)) : Nat := (ks.headD [0]).length
def okK (ks : List (List Int)) : Bool := decide (ks.length < 64) && (decide (1 ≤ dOf ks) && ks.all fun k => decide (k.length = dOf ks) && k.all fun x => decide (0 ≤ x ∧ x < 64))
def fSortSet : List D → Option D
  | [.lst l] => match tIs l with
    | some ks => if okK ks = true then some (.lst ((sortT ks).map dT)) else none
    | none => none
  | _ => none
def rSortSet (K : PySem.W.Frag) (P : Program) (w : World) : List V → Hp → VK → Prop := fun vs H Q => rSetOfT K P w vs H fun v H2 => rSortedT K P w [v] H2 Q
section
variable {K : PySem.W.Frag} {mg : Str → Option Value} {H F : Hp} {P : Program} {w : World}
theorem reps_dT : ∀ {ks : List (List Int)} {ws : List V}, reps K mg F (ks.map dT) ws → ∃ L : List (Addr × List Int), L.map (·.2) = ks ∧ ws = L.map (fun p => V.ref p.1) ∧ ∀ p ∈ L, SqT K F p.1 (p.2.map V.int)
  | [], ws, h => by
    simp only [List.map_nil, reps] at h
    exact ⟨[], rfl, h, fun p hp => by cases hp⟩
  | k :: ks, ws, h => by
    simp only [List.map_cons, reps] at h
    obtain ⟨v, r, rfl, h1, h2⟩ := h
    obtain ⟨L, e1, e2, e3⟩ := reps_dT h2
    simp only [dT, rep] at h1
    obtain ⟨p, vs, rfl, h3, h4⟩ := h1
    have := reps_ints h4
    subst this
    exact ⟨(p, k) :: L, by rw [List.map_cons, e1], by rw [List.map_cons, e2], fun q hq => by
      rcases List.mem_cons.mp hq with rfl | hq
      · exact h3
      · exact e3 q hq⟩
theorem reps_of_L : ∀ {L : List (Addr × List Int)}, (∀ p ∈ L, SqT K F p.1 (p.2.map V.int)) → reps K mg F ((L.map (·.2)).map dT) (L.map fun p => V.ref p.1)
  | [], _ => by simp only [List.map_nil, reps]
  | p :: L, h => by
    simp only [List.map_cons]
    refine reps_cons ?_ (reps_of_L fun q hq => h q (List.mem_cons_of_mem _ hq))
    simp only [dT, rep]
    exact ⟨_, _, rfl, h p List.mem_cons_self, reps_intsV _⟩
theorem c_sortSet : CallF K mg fSortSet (rSortSet K P w) .own := by
  intro H F vs ds d Q s r hf q
  unfold fSortSet at hf
  split at hf
  · rename_i l
    cases ht : tIs l with
    | none => rw [ht] at hf; cases hf
    | some ks =>
      rw [ht] at hf
      simp only at hf
      split at hf <;> cases hf
      rename_i hok
      unfold okK at hok
      simp only [Bool.and_eq_true, decide_eq_true_eq, List.all_eq_true] at hok
      obtain ⟨h64, hd, hk⟩ := hok
      obtain ⟨v, w', rfl, h1, rfl⟩ := r
      obtain ⟨p, ws, rfl, h2, h3⟩ := h1.lst
      rw [tIs_ok ht] at h3
      obtain ⟨L0, e1, rfl, e3⟩ := reps_dT h3
      have bd : ∀ p ∈ L0, p.2.length = dOf ks ∧ TS.Bd 64 p.2 := fun p hp => by
        have := hk p.2 (by rw [← e1]; exact List.mem_map.mpr ⟨p, hp, rfl⟩)
        exact ⟨this.1, fun m hm => this.2 m hm⟩
      have l64 : L0.length < 64 := by rw [← e1, List.length_map] at h64; exact h64
      refine ⟨p, L0, rfl, .of h2, fun p hp => Same.sqT s (e3 p hp), l64, fun a L ha hL hc => ?_⟩
      refine ⟨a, L, dOf ks, 64, rfl, upd_same, fun p hp => Same.sqT (Same.updN ha) (Same.sqT s (e3 p (hL p hp))), hd, fun p hp => bd p (hL p hp), fun L' p' pm nd _ pw hp' => ?_⟩
      have sub : ∀ p ∈ L', p ∈ L0 := fun p hp => hL p (pm.mem_iff.mp hp)
      have inc : IncL (L'.map (·.2)) := by
        have nd2 : L'.Pairwise fun q r => q.2 ≠ r.2 := List.pairwise_map.mp nd
        rw [IncL, List.pairwise_map]
        refine List.Pairwise.imp_of_mem (fun {a b} ha hb ⟨h1, h2⟩ => ?_) (pw.and nd2)
        obtain ⟨l1, b1⟩ := bd a (sub a ha)
        obtain ⟨l2, b2⟩ := bd b (sub b hb)
        have no : ¬ ltL b.2 a.2 = true := fun z => by
          have := (code_ltL (B := 64) (by rw [l1, l2]) b2 b1).mpr z
          omega
        rw [ltL_tot _ _ h2, Bool.not_eq_true']
        exact Bool.eq_false_iff.mpr no
      have eR : sortT ks = L'.map (·.2) := incL_uniq (sortT_inc ks) inc fun x => by
        rw [mem_sortT]
        constructor
        · intro hx
          rw [← e1] at hx
          obtain ⟨p, hp, rfl⟩ := List.mem_map.mp hx
          exact ((pm.map (·.2)).mem_iff).mpr (hc p hp)
        · intro hx
          obtain ⟨p, hp, rfl⟩ := List.mem_map.mp hx
          rw [← e1]
          exact List.mem_map.mpr ⟨p, sub p hp, rfl⟩
      rw [eR] at q
      have g := Grow.newO (F := F) (o := SetTO P w a L) s ha
      have s2 := g.sh
      refine q _ _ F (g.trans (Grow.newO s2 hp')) ?_
      have n := NewOk.newL (K := K) (mg := mg) hp' s2 (reps_of_L fun p hp => e3 p (sub p hp))
      refine ⟨n.1, fun _ z ez => ?_⟩
      cases ez
      cases hz : H p' with
      | none => rfl
      | some o => rw [g.kp _ _ hz] at hp'; cases hp'
  · cases hf
end
section
variable {X : Cx} {Γ Γ' : Gm} {W : WE} {e : Expr} {es : List Expr} {as : List Arg} {p p2 pos pos2 : Pos}
theorem ve_sortSet (hc : X.calm = true) (hu : X.A.units + 64 < cLine) (hg : Gl X "sorted") (hm : X.mg "sorted" = none) (hg2 : Gl X "set") (hm2 : X.mg "set" = none) (ha : VA X Γ Γ' W (e :: es) as)
    (he : starEach (e :: es) X.env = (false, eval e X.env) :: starEach es X.env := by rfl) (hpl : (backTo pos2 (starEach es X.env)).any (·.1) = false := by rfl)
    (he2 : starEach [.Call (.Name "set" p2) (e :: es) [] pos2] X.env = (false, eval (.Call (.Name "set" p2) (e :: es) [] pos2) X.env) :: starEach [] X.env := by rfl) :
    VE X Γ Γ' W (.Call (.Name "sorted" p) [.Call (.Name "set" p2) (e :: es) [] pos2] [] pos) .own (eCall fSortSet as) :=
  peImp (pe_callB (cr_sortedT hc) hg hm (by decide +kernel) (pa_cons (pe_callTy (cr_setOfT hc hu) hg2 hm2 (by decide +kernel) ha (by decide) (by decide) he hpl) pa_nil he2) (by decide) (by decide) he2) fun σ H Q h => call_tr (r := rSortSet X.K X.prog X.w) c_sortSet h
end
end VL

set_option Elab.async false
set_option linter.all false
set_option maxRecDepth 100000
set_option maxHeartbeats 1000000
/-! VL41: objects of classes of one's own: attributes, making. -/
namespace VL
open PySem PySem.Spec PyProof.Rows L2
/-- what the written part says of a class of objects -/
structure OCls (K : PySem.W.Frag) (mg : Str → Option Value) (nm : String) (C : Addr) (fs : List String) : Prop where
  gm : mg (Str.ofString nm) = some (.ref C)
  cl : Cls K C
  no : ∀ f ∈ fs, NoAttr K C (Str.ofString f)
/-- the classes of these names have the attribute f -/
def HasF (K : PySem.W.Frag) (mg : Str → Option Value) (cs : List String) (f : String) : Prop := ∀ c ∈ cs, ∃ C, mg (Str.ofString c) = some (.ref C) ∧ Cls K C ∧ NoAttr K C (Str.ofString f)
theorem OCls.has {K : PySem.W.Frag} {mg : Str → Option Value} {nm : String} {C : Addr} {fs : List String} {f : String} (c : OCls K mg nm C fs) (h : f ∈ fs) : HasF K mg [nm] f := fun x hx => by
  rw [List.mem_singleton.mp hx]; exact ⟨C, c.gm, c.cl, c.no f h⟩
theorem HasF.cons {K : PySem.W.Frag} {mg : Str → Option Value} {nm f : String} {cs : List String} (h : HasF K mg [nm] f) (h2 : HasF K mg cs f) : HasF K mg (nm :: cs) f := fun x hx => by
  rcases List.mem_cons.mp hx with rfl | hx
  · exact h _ List.mem_cons_self
  · exact h2 x hx
def eFld (cs : List String) (f : String) (ev : Ev) : Ev := fun ρ => (ev ρ).bind fun r => match r.1 with
  | .obj c fs => if cs.contains c = true then (opt (lookF f fs)).bind fun y => .ok (y, r.2) else .bad
  | _ => .bad
section
variable {X : Cx} {Γ Γ' : Gm} {W : WE} {e : Expr} {pos : Pos} {ev : Ev} {cs : List String} {f : String}
theorem ve_fld (hh : HasF X.K X.mg cs f) (he : VB X Γ Γ' W e (.ex ev)) (hb : attributeBase e (Str.ofString f) X.env (eval e X.env) = eval e X.env := by rfl) : VE X Γ Γ' W (.Attribute e (Str.ofString f) pos) .fz (eFld cs f ev) :=
  peImp (pe_fld he hb) fun σ H Q ⟨ρ, F, r, q⟩ => ⟨ρ, F, r, Res.sat_bind.mpr (Res.sat_imp (Res.sat_bind.mp q) (fun z _ q v H1 F1 e1 r1 b1 => by
    have b1 : RdN X.K X.mg (Own Γ' z.2 σ) H1 F1 v z.1 := b1
    cases hz : z.1 <;> rw [hz] at q <;> first | exact q.elim | skip
    rename_i c fs
    rw [hz] at b1
    dsimp only at q
    split at q
    · rename_i hc
      have b := b1.rdd
      unfold Rdd at b
      rw [if_pos (show cellD (.obj c fs) = true from rfl)] at b
      obtain ⟨p, o, rfl, h1, C, dx, xs, g, rfl, h2⟩ := b
      obtain ⟨y, hy, q⟩ := opt_sat (Res.sat_bind.mp q)
      obtain ⟨u, hu, ru⟩ := repsF_look h2 hy
      obtain ⟨C', g', cl, no⟩ := hh c (List.contains_iff_mem.mp hc)
      rw [g] at g'; cases g'
      exact ⟨p, C, dx, xs, u, rfl, h1, cl, no, hu, q u H1 F1 e1 r1 ru⟩
    · exact q.elim) fun _ h => h)⟩
end
/-! ### storing an attribute of one's own object -/
def putFD (f : String) (d : D) : List (String × D) → List (String × D)
  | [] => [(f, d)]
  | p :: r => if Str.ofString p.1 == Str.ofString f then (p.1, d) :: r else p :: putFD f d r
theorem repsF_put {K : PySem.W.Frag} {mg : Str → Option Value} {F : Hp} {f : String} {d : D} {v : V} (hd : rep K mg F d v) : ∀ {fs : List (String × D)} {xs : List (Str × V)}, repsF K mg F fs xs → repsF K mg F (putFD f d fs) (putF (Str.ofString f) v xs)
  | [], xs, h => by
    simp only [repsF] at h
    subst h
    simp only [putFD, putF, repsF]
    exact ⟨v, [], rfl, hd, rfl⟩
  | (g, x) :: r, xs, h => by
    simp only [repsF] at h
    obtain ⟨u, w, rfl, h1, h2⟩ := h
    simp only [putFD, putF]
    by_cases e : Str.ofString g = Str.ofString f
    · rw [if_pos (beq_iff_eq.mpr e), if_pos e]
      simp only [repsF]
      exact ⟨v, w, rfl, hd, h2⟩
    · rw [if_neg (fun z => e (beq_iff_eq.mp z)), if_neg e]
      simp only [repsF]
      exact ⟨u, _, rfl, h1, repsF_put hd h2⟩
theorem repsF_len {K : PySem.W.Frag} {mg : Str → Option Value} {F : Hp} : ∀ {fs : List (String × D)} {xs : List (Str × V)}, repsF K mg F fs xs → xs.length = fs.length
  | [], xs, h => by simp only [repsF] at h; subst h; rfl
  | p :: r, xs, h => by
    simp only [repsF] at h
    obtain ⟨u, w, rfl, h1, h2⟩ := h
    simp only [List.length_cons, repsF_len h2]
def sSetF (cs : List String) (i : Nat) (f : String) (fe : Ev) : Es := fun ρ => (fe ρ).bind fun r => (gv r.2 i).bind fun d => match d with
  | .obj c fs => if (cs.contains c && decide (fs.length < 1000)) = true then .ok (.next (r.2.set i (some (.obj c (putFD f r.1 fs))))) else .bad
  | _ => .bad
section
variable {X : Cx} {Γ Γ1 : Gm} {S : SC} {W : WE} {o e : Expr} {pos pos' : Pos} {fe : Ev} {cs : List String} {f : String} {i : Nat} {m : Md}
theorem vs_setF (hh : HasF X.K X.mg cs f) (ha : PE X o (tVar i)) (he : VE X Γ Γ1 W e .fz fe) (hm : Γ1[i]? = some m) (hu : m.mut = true)
    (hs : swapsWith e (some (.Attribute o (Str.ofString f) pos')) pos.line X.env = pure false := by rfl) : VS X Γ Γ1 S W (.Assign [.Attribute o (Str.ofString f) pos'] e pos) (sSetF cs i f fe) :=
  psImp (ps_fld ha he hs) fun D σ H ⟨ρ, F, r, q⟩ => ⟨ρ, F, r, Res.sat_imp (Res.sat_bind.mp q) (fun z _ q v H1 F1 e1 r1 vo => by
    obtain ⟨d, hd, q⟩ := gv_sat (Res.sat_bind.mp q)
    cases d <;> first | exact q.elim | skip
    rename_i c fs
    dsimp only at q
    split at q
    · rename_i hc
      rw [Bool.and_eq_true, decide_eq_true_eq] at hc
      obtain ⟨p, ob, k1, k2, ⟨C, dx, xs, g, rfl, k3⟩, k4⟩ := r1.ownAt hm hu hd rfl
      obtain ⟨C', g', cl, no⟩ := hh c (List.contains_iff_mem.mp hc.1)
      rw [g] at g'; cases g'
      have vo : rep X.K X.mg F1 z.1 v := vo
      obtain ⟨r2, e2⟩ := r1.upd (d' := .obj c (putFD f z.1 fs)) (o' := .ins C dx (putF (Str.ofString f) v xs)) hm hu hd rfl k1 k2 k4 rfl ⟨C, dx, _, g, rfl, repsF_put vo k3⟩
      exact ⟨_, k1, p, C, dx, xs, rfl, k2, cl, no, by rw [repsF_len k3]; exact hc.2, q σ _ F1 (e1.trans e2) Keep.refl r2⟩
    · exact q.elim) fun _ h => h.ex⟩
end
/-! ### making an object -/
def noIo (pms : List PM) : Bool := pms.all fun m => decide (m ≠ .io)
theorem ioAd_no : ∀ {pms : List PM} {vs : List V}, noIo pms = true → ioAd pms vs = []
  | [], _, _ => rfl
  | m :: ms, vs, h => by
    simp only [noIo, List.all_cons, Bool.and_eq_true, decide_eq_true_eq] at h
    cases vs with
    | nil => cases m <;> simp [ioAd]
    | cons v vs =>
      have := ioAd_no (pms := ms) (vs := vs) h.2
      cases m <;> first | (exact absurd rfl h.1; done) | (simp only [ioAd]; exact this)
theorem pargs_up {K : PySem.W.Frag} {mg : Str → Option Value} {I I' : List Addr} {H H2 F : Hp} (hk : ∀ p o, H p = some o → H2 p = some o) (hI : ∀ p ∈ I', p ∉ I → H p = none) : ∀ {pms : List PM} {vs : List V} {ds : List D}, noIo pms = true → PArgs K mg I H F pms vs ds → PArgs K mg I' H2 F pms vs ds
  | [], _, _, _, h => h
  | m :: ms, vs, ds, hn, ⟨v, w, d, e, h1, h2, h3, h4⟩ => by
    have hn' := hn
    simp only [noIo, List.all_cons, Bool.and_eq_true, decide_eq_true_eq] at hn
    refine ⟨v, w, d, e, h1, h2, ?_, pargs_up hk hI hn.2 h4⟩
    cases m with
    | fz => exact h3
    | io => exact absurd rfl hn.1
    | brw =>
      have h3 : RdN K mg (InL I) H F v d := h3
      show RdN K mg (InL I') H2 F v d
      unfold RdN at h3 ⊢
      split
      · rename_i c
        rw [if_pos c] at h3
        obtain ⟨p, o, e, k1, k2, k3⟩ := h3
        refine ⟨p, o, e, hk _ _ k1, k2, k3.imp id fun ⟨a, b⟩ => ⟨a, fun z => ?_⟩⟩
        have z : p ∈ I' := z
        have := hI p z b
        rw [k1] at this; cases this
      · rename_i c
        rw [if_neg c] at h3
        exact h3
def eMake (nm : String) (pms : List PM) (fe : Fe) (as : List Arg) : Ev := fun ρ => (Arg.runs as ρ).bind fun p => (Arg.fins as p.1 p.2).bind fun ds => if ioCells pms ds = true then (fe (.obj nm [] :: ds)).bind fun r => match r.1, r.2 with
  | .non, [d] => .ok (d, p.2)
  | _, _ => .bad else .bad
section
variable {X : Cx} {Γ Γ' : Gm} {W : WE} {e : Expr} {es : List Expr} {p pos : Pos} {as : List Arg} {k : Nat} {f C : Addr} {fd : FuncData} {ps : List Str} {x : Str} {pms : List PM} {fe : Fe} {CX : CXT} {EX : XW} {E : XK} {nm : String}
theorem make_tr (gm : X.mg (Str.ofString nm) = some (.ref C)) (hok : okA (ioSl as) pms as = true) (hio : ioSl as = []) (hno : noIo pms = true)
    {σ : St} (hE : ∀ y H F ρ, (∀ H' F' O', Evo (Own Γ' ρ σ) H F O' H' F' → W y σ H' F') → ∀ ad H' F', Evo (Own Γ' ρ σ) H F (Own Γ' ρ σ) H' F' → FEvo ad H F H' F' → EX y H' F' E) {H : Hp} {Q : VK} (h : trE X Γ Γ' W .own (eMake nm pms fe as) σ H Q) :
    trA X Γ Γ' W as σ H fun vs H1 => ∀ x dx, H1 x = none → H1 dx = none → dx ≠ x → spFn X.K X.mg (.io :: pms) .fz fe EX (.ref x :: (vs ++ [])) (upd (upd H1 dx (.own x)) x (.ins C dx [])) (fun v H2 => v = .non ∧ Q (.ref x) H2) E := by
  obtain ⟨ρ, F, r, q⟩ := h
  refine ⟨ρ, F, r, Res.sat_imp (Res.sat_bind.mp q) (fun z _ q vs H1 F1 e1 r1 b1 x dx hx hdx ne => ?_) fun _ h => h⟩
  obtain ⟨ds, hds, q⟩ := fins_sat q
  by_cases hc : ioCells pms ds = true
  · rw [if_pos hc] at q
    have af := b1.fin r1 hds
    have ha := args_ok (I := []) (ios := ioSl as) r1 (by rw [hio]; intro i hi; cases hi) (fun p hp => by cases hp) hok af hds hc (fun p hp => by rw [ioAd_no hno] at hp; cases hp)
    obtain ⟨H2, eH2⟩ : ∃ H2, H2 = upd (upd H1 dx (.own x)) x (.ins C dx []) := ⟨_, rfl⟩
    have g1 : Grow H1 F1 (upd H1 dx (.own x)) F1 := Grow.newO r1.sub hdx
    have hx2 : (upd H1 dx (.own x)) x = none := by rw [upd_ne (fun z => ne z.symm)]; exact hx
    have g2 : Grow H1 F1 H2 F1 := by rw [eH2]; exact g1.trans (Grow.newO g1.sh hx2)
    have fx : F1 x = none := L2.Same.free r1.sub hx
    have ad : ioAd (.io :: pms) (.ref x :: vs) = [x] := by
      show x :: ioAd pms vs = [x]
      rw [ioAd_no hno]
    have le := ha.len.1
    rw [List.append_nil, ← eH2]
    have gx : H2 x = some (.ins C dx []) := by rw [eH2, upd_same]
    have grow : ∀ {H' F' : Hp}, FEvo [x] H2 F1 H' F' → Grow H1 F1 H' F' := fun {H' F'} fv => by
      have kp : ∀ p o, H1 p = some o → F1 p = none → H' p = some o ∧ F' p = none := fun p o h1 h2 => fv.kp p o (g2.kp p o h1) h2 fun z => by
        rw [List.mem_singleton.mp z, hx] at h1; cases h1
      refine ⟨fv.sf, fv.sh, fun p o h1 => ?_, fun p o h1 h2 => (kp p o h1 h2).2⟩
      cases hf : F1 p with
      | none => exact (kp p o h1 hf).1
      | some u =>
        have := r1.sub _ _ hf
        rw [h1] at this; cases this
        exact fv.sh _ _ (fv.sf _ _ hf)
    refine ⟨by simp only [List.length_cons]; omega, F1, .obj nm [] :: ds, g2.sh, ?_, by rw [ad]; simp, Res.sat_imp (Res.sat_bind.mp q) (fun w _ q v H' F' fv bk rv => ?_) fun y hy H' F' fv => ?_⟩
    · rw [ad]
      refine ⟨_, _, _, _, rfl, rfl, ⟨x, rfl, by simp, rfl, ?_⟩, pargs_up g2.kp (fun p hp _ => by rw [List.mem_singleton.mp hp]; exact hx) hno ha⟩
      unfold Cell
      rw [if_pos (show cellD (.obj nm []) = true from rfl)]
      exact ⟨x, _, rfl, gx, ⟨C, dx, [], gm, rfl, by simp only [repsF]⟩, fx⟩
    · rw [ad] at fv bk
      obtain ⟨bl, bk⟩ := bk
      cases h1 : w.1 <;> rw [h1] at q rv <;> first | exact q.elim | skip
      cases h2 : w.2 with
      | nil => rw [h2] at q; exact q.elim
      | cons d r =>
        cases r with
        | cons _ _ => rw [h2] at q; exact q.elim
        | nil =>
          rw [h2] at q bk
          have rv : rep X.K X.mg F' .non v := rv
          simp only [rep] at rv
          obtain ⟨c1, c2⟩ := bk 0 x d rfl rfl
          have g := grow fv
          refine ⟨rv, q (.ref x) H' F' (e1.trans g.evo) (r1.grow g) ⟨c2, fun _ p ep => ?_⟩⟩
          cases ep
          refine ⟨e1.dom x hx, fun hO => ?_⟩
          obtain ⟨o, ho, _⟩ := Own.there r1 hO
          rw [hx] at ho; cases ho
    · rw [ad] at fv
      have g := grow fv
      refine hE y H1 F1 z.2 (fun H3 F3 O3 e3 => hy H3 F3 O3 (e1.trans e3)) [x] H' F' g.evo ⟨g.sf, g.sh, fun p o h1 h2 _ => ⟨g.kp p o h1, g.fr p o h1 h2⟩, fun p h => ?_⟩
      have := fv.dom p h
      cases hp : H1 p with
      | none => rfl
      | some o => rw [g2.kp _ _ hp] at this; cases this
  · rw [if_neg hc] at q; exact q.elim
end
section
variable {X : Cx} {Γ Γ' : Gm} {e : Expr} {es : List Expr} {p pos : Pos} {as : List Arg} {k : Nat} {f C : Addr} {fd : FuncData} {ps : List Str} {x : Str} {pms : List PM} {fe : Fe} {CX : CXT} {nm : String} {sp : Sp} {t : TA} {E : St → XK}
def tMk (C : Addr) (sp : Sp) (E : St → XK) (t : TA) : TE := fun σ H Q => t σ H fun vs H1 => ∀ x dx, H1 x = none → H1 dx = none → dx ≠ x → sp (.ref x :: (vs ++ [])) (upd (upd H1 dx (.own x)) x (.ins C dx [])) (fun v H2 => v = .non ∧ Q (.ref x) H2) (E σ)
/-- C(e, ..): the instance is laid, then its def __init__ runs -/
theorem pe_mk (M : Mk X.K C f) (F : FnOk X.prog X.w X.K X.mg X.base CX k f fd ps sp) (hr : Room (k + 1) X.A) (hg : Gl X x) (hm : X.mg x = some (.ref C)) (hb : Binds X.K fd ps []) (hx : ∀ σ, PassesAt CX X σ (E σ))
    (ha : PA X (e :: es) t) (hdb : (x == ("__debug__" : Str)) = false := by decide) (he : starEach (e :: es) X.env = (false, eval e X.env) :: starEach es X.env := by rfl) (hpl : (backTo pos (starEach es X.env)).any (·.1) = false := by rfl) :
    PE X (.Call (.Name x p) (e :: es) [] pos) (tMk C sp E t) := by
  refine ⟨fun pins s σ H Q I h => ?_⟩
  refine wpAny_Call_Name_kw (ld_glob I hg hm ?_ hdb)
  refine PySem.W.callWith_K (h₀ := X.base) I.ok.mod.kin M.kp (thn (ha.run pos pins s σ H _ I h) fun us s1 ⟨vs, H1, I1, r, q⟩ => ⟨I1.kIn, ?_⟩) he hpl
  have h0 := q (s1.heap.objs.size + 1) s1.heap.objs.size (I1.hok.fresh (Nat.le_succ _)) (I1.hok.fresh (Nat.le_refl _)) (Nat.ne_of_lt (Nat.lt_succ_self _))
  rw [List.append_nil] at h0
  have I2 := Inv.made (C := C) I1
  have r2 : Vals (V.ref (s1.heap.objs.size + 1) :: vs) (Value.ref (s1.heap.objs.size + 1) :: us) := .cons rfl r
  have hl := r2.length.symm.trans (F.len _ _ _ _ h0)
  have b := hb _ (Value.ref (s1.heap.objs.size + 1) :: us) I2.kIn (by rw [List.append_nil]; exact hl)
  rw [List.append_nil] at b
  refine wpAny_call (make_map (f := f) I1.kIn M.makes M.init (beq_iff_eq.mp M.fn) (codeAny_mono (F.run _ X.stack _ _ _ _ _ _ (E σ) (hr.make C us []) (I2.env0.make C us []) b r2 h0) fun r s' hq => ?_))
  cases r with
  | error er => exact hx σ _ _ _ er s' I2 hq
  | ok fl =>
    cases fl with
    | ret u =>
      obtain ⟨v, H', I3, rv, ev, q3⟩ := I2.after hq
      subst ev
      exact ⟨rv, V.ref (s1.heap.objs.size + 1), H', I3, rfl, q3⟩
    | next => exact False.elim hq
    | brk => exact False.elim hq
    | cont => exact False.elim hq
theorem pass0At {σ : St} : PassesAt CX0 X σ E0 := fun pins H s e s' I c => pass0 pins σ H s e s' I c
theorem ve_make0 {W : WE} (gm : X.mg (Str.ofString nm) = some (.ref C)) (ha : VA X Γ Γ' W (e :: es) as) (hok : okA (ioSl as) pms as = true) (hio : ioSl as = []) (hno : noIo pms = true)
    (hp : ∀ {t : TA}, PA X (e :: es) t → PE X (.Call (.Name (Str.ofString nm) p) (e :: es) [] pos) (tMk C (spFn X.K X.mg (.io :: pms) .fz fe EX0) (fun _ => E0) t)) :
    VE X Γ Γ' W (.Call (.Name (Str.ofString nm) p) (e :: es) [] pos) .own (eMake nm pms fe as) :=
  peImp (hp ha) fun σ H Q h => make_tr gm hok hio hno (fun _ _ _ _ _ _ _ _ _ _ => trivial) h
theorem ve_makeX {W : WX} (gm : X.mg (Str.ofString nm) = some (.ref C)) (ha : VA X Γ Γ' (liftW X.K X.mg W) (e :: es) as) (hok : okA (ioSl as) pms as = true) (hio : ioSl as = []) (hno : noIo pms = true)
    (hp : ∀ {t : TA}, PA X (e :: es) t → PE X (.Call (.Name (Str.ofString nm) p) (e :: es) [] pos) (tMk C (spFn X.K X.mg (.io :: pms) .fz fe (EXW X.K X.mg)) (L2.WE W) t)) :
    VE X Γ Γ' (liftW X.K X.mg W) (.Call (.Name (Str.ofString nm) p) (e :: es) [] pos) .own (eMake nm pms fe as) :=
  peImp (hp ha) fun σ H Q h => make_tr (W := liftW X.K X.mg W) (EX := EXW X.K X.mg) (E := L2.WE W σ) (σ := σ) gm hok hio hno (fun y H F ρ k ad H' F' ev fv s cls d xr => k H' F' _ ev s cls d xr) h
end
end VL

set_option Elab.async false
set_option linter.all false
set_option maxRecDepth 100000
set_option maxHeartbeats 1000000
/-! VL42: isinstance(x, C), C a class of one's own; isinstance(x, (list, tuple)). -/
namespace VL
open PySem PySem.Spec PyProof.Rows L2
/-- what is asked of the class of an instance -/
structure OTy (K : PySem.W.Frag) (mg : Str → Option Value) (nm : String) (C : Addr) : Prop where
  gm : mg (Str.ofString nm) = some (.ref C)
  cl : Cls K C
  ca : PySem.W.findIn K (.ref C) "__class__" = some (some (.builtin "object.__class__"))
  mo : PySem.W.mroIn K C (.type "object") = some true
structure OTop (K : PySem.W.Frag) : Prop where
  sp : PySem.W.specialIn K (.builtin "object.__class__") "__get__" = some (some (.builtin "getset_descriptor.__get__"))
  tk : PySem.W.takesIn K (.builtin "object.__class__") = some true
/-- the answers for instances of the classes of one's own -/
def lookO (c : String) : List (String × Bool) → Option Bool
  | [] => none
  | p :: r => if p.1 = c then some p.2 else lookO c r
def OTab (K : PySem.W.Frag) (mg : Str → Option Value) (tb : List (String × Bool)) (C : Addr) : Prop := ∀ c b, lookO c tb = some b → ∃ C', OTy K mg c C' ∧ PySem.W.kitOne K (.ref C') (.ref C) = some b
theorem otab_nil {K : PySem.W.Frag} {mg : Str → Option Value} {C : Addr} : OTab K mg [] C := fun c b h => by cases h
theorem otab_cons {K : PySem.W.Frag} {mg : Str → Option Value} {C C' : Addr} {nm : String} {b : Bool} {tb : List (String × Bool)} (o : OTy K mg nm C') (k : PySem.W.kitOne K (.ref C') (.ref C) = some b) (r : OTab K mg tb C) : OTab K mg ((nm, b) :: tb) C := fun c b' h => by
  unfold lookO at h
  split at h
  · rename_i e
    have e : nm = c := e
    subst e; cases h; exact ⟨C', o, k⟩
  · exact r c b' h
def fIsO (tb : List (String × Bool)) : List D → Option D
  | [.obj c _, _] => (lookO c tb).map .bl
  | [d, _] => (tyD d).map fun _ => .bl false
  | _ => none
theorem kit_bt {K : PySem.W.Frag} {C : Addr} {t : String} (hd : PySem.W.hasDictIn K C = true) (ht : PySem.W.typeIn K (.ref C) = some (.type "type")) (h : t ∈ ["NoneType", "bool", "int", "str", "tuple", "list", "dict"]) : PySem.W.kitOne K (.type t) (.ref C) = some false := by
  have hs : PySem.W.subIn K (.type t) (.ref C) = some false := by
    simp only [List.mem_cons, List.not_mem_nil, or_false] at h
    rcases h with rfl | rfl | rfl | rfl | rfl | rfl | rfl <;> rfl
  unfold PySem.W.kitOne
  rw [if_neg (by simp)]
  unfold PySem.W.kitCls
  obtain ⟨cd, hc, _⟩ := PySem.W.any_some hd
  have e2 : ((PySem.W.clsIn K C).isSome && PySem.W.typeIn K (.ref C) == some (.type "type")) = true := by rw [hc, ht] <;> rfl
  dsimp only
  rw [if_pos e2]
  exact hs
section
variable {X : Cx} {Γ Γ' : Gm} {W : WE} {a b : Expr} {x : Str} {p pos : Pos} {tb : List (String × Bool)} {C : Addr}
theorem ve_isO {o' : Opd} (hT : OTop X.K) (ht : OTab X.K X.mg tb C) (hb : ∀ t ∈ ["NoneType", "bool", "int", "str", "tuple", "list", "dict"], PySem.W.kitOne X.K (.type t) (.ref C) = some false)
    (ha : VB X Γ Γ' W a o') (hp : ∀ {t : TE}, PE X a t → PE X (.Call (.Name x p) [a, b] [] pos) (tCB (rIsi X.K) (tCons t (tCons (tC (.ref C)) tNil)))) :
    VE X Γ Γ' W (.Call (.Name x p) [a, b] [] pos) .fz (eCall (fIsO tb) [.bor o', .val eTy]) :=
  peImp (hp ha) fun σ H Q ⟨ρ, F, r, q⟩ => ⟨ρ, F, r, by
    have q := Res.sat_bind.mp q
    have q := Res.sat_bind.mp q
    refine Res.sat_imp q (fun z _ q v H1 F1 e1 r1 b1 => ?_) fun _ h => h
    have q : ((Arg.fins [Arg.bor o', Arg.val eTy] [z.1, some .non] z.2).bind fun ds => (opt (fIsO tb ds)).bind fun d => Res.ok (d, z.2)).sat _ _ := q
    obtain ⟨ds, hds, q⟩ := fins_sat q
    obtain ⟨d, hd, hds⟩ : ∃ d, o'.fin z.1 z.2 = .ok d ∧ ds = [d, .non] := by
      unfold Arg.fins at hds
      cases h : (Arg.bor o').fin z.1 z.2 with
      | exn x => exact (Arg.fin_exn h).elim
      | bad => rw [h] at hds; cases hds
      | ok d => rw [h] at hds; exact ⟨d, h, by cases hds; rfl⟩
    subst hds
    have rd := b1.fin r1 (Evo.refl r1.sub) hd
    by_cases ho : ∃ c fs, d = .obj c fs
    · obtain ⟨c, fs, rfl⟩ := ho
      have ef : fIsO tb [.obj c fs, .non] = (lookO c tb).map .bl := rfl
      rw [ef] at q
      cases hl : lookO c tb with
      | none => rw [hl] at q; exact q.elim
      | some bb =>
        rw [hl] at q
        obtain ⟨C', o, k⟩ := ht c bb hl
        unfold Rdd at rd
        rw [if_pos (show cellD (.obj c fs) = true from rfl)] at rd
        obtain ⟨pp, ob, rfl, h1, C2, dx, xs, g, rfl, h2⟩ := rd
        rw [o.gm] at g; cases g
        exact ⟨_, .ref C, .ref C', .ref C, bb, rfl, .own C, .base (.ins h1 o.cl o.ca hT.sp hT.tk o.mo), k, q _ H1 F1 e1 r1 rfl⟩
    · have ef : fIsO tb [d, .non] = (tyD d).map fun _ => .bl false := by
        cases d <;> first | rfl | (exact absurd ⟨_, _, rfl⟩ ho)
      rw [ef] at q
      cases ht2 : tyD d with
      | none => rw [ht2] at q; exact q.elim
      | some t =>
        rw [ht2] at q
        have ty := rdd_ty r1.sub rd ht2
        have mem : t ∈ ["NoneType", "bool", "int", "str", "tuple", "list", "dict"] := by
          cases d <;> simp only [tyD] at ht2 <;> first | (cases ht2; done) | (cases ht2; simp)
        exact ⟨v, .ref C, .type t, .ref C, false, rfl, .own C, ty, hb t mem, q _ H1 F1 e1 r1 rfl⟩⟩
end
def fIsT (T1 T2 : String) : List D → Option D
  | [d, _] => (tyD d).map fun t => .bl (isiB t T1 || isiB t T2)
  | _ => none
section
variable {X : Cx} {Γ Γ' : Gm} {W : WE} {a b : Expr} {x : Str} {p pos : Pos}
theorem ve_isT {o' : Opd} {T1 T2 : String} (hb1 : ∀ t ∈ ["NoneType", "bool", "int", "str", "tuple", "list", "dict"], kitB t T1 = some (isiB t T1)) (hb2 : ∀ t ∈ ["NoneType", "bool", "int", "str", "tuple", "list", "dict"], kitB t T2 = some (isiB t T2))
    (ha : VB X Γ Γ' W a o') (hp : ∀ {t : TE}, PE X a t → PE X (.Call (.Name x p) [a, b] [] pos) (tCB (rIsiT X.K) (tCons t (tCons (tTup (tCons (tC (.ty T1)) (tCons (tC (.ty T2)) tNil))) tNil)))) :
    VE X Γ Γ' W (.Call (.Name x p) [a, b] [] pos) .fz (eCall (fIsT T1 T2) [.bor o', .val eTy]) :=
  peImp (hp ha) fun σ H Q ⟨ρ, F, r, q⟩ => ⟨ρ, F, r, by
    have q := Res.sat_bind.mp q
    have q := Res.sat_bind.mp q
    refine Res.sat_imp q (fun z _ q v H1 F1 e1 r1 b1 => ?_) fun _ h => h
    have q : ((Arg.fins [Arg.bor o', Arg.val eTy] [z.1, some .non] z.2).bind fun ds => (opt (fIsT T1 T2 ds)).bind fun d => Res.ok (d, z.2)).sat _ _ := q
    obtain ⟨ds, hds, q⟩ := fins_sat q
    obtain ⟨d, hd, hds⟩ : ∃ d, o'.fin z.1 z.2 = .ok d ∧ ds = [d, .non] := by
      unfold Arg.fins at hds
      cases h : (Arg.bor o').fin z.1 z.2 with
      | exn x => exact (Arg.fin_exn h).elim
      | bad => rw [h] at hds; cases hds
      | ok d => rw [h] at hds; exact ⟨d, h, by cases hds; rfl⟩
    subst hds
    have rd := b1.fin r1 (Evo.refl r1.sub) hd
    have ef : fIsT T1 T2 [d, .non] = (tyD d).map fun t => .bl (isiB t T1 || isiB t T2) := rfl
    rw [ef] at q
    cases ht : tyD d with
    | none => rw [ht] at q; exact q.elim
    | some t =>
      rw [ht] at q
      have mem : t ∈ ["NoneType", "bool", "int", "str", "tuple", "list", "dict"] := by
        cases d <;> simp only [tyD] at ht <;> first | (cases ht; done) | (cases ht; simp)
      refine ⟨by show 2 ≤ sizeLine; rw [sizeLine_eq]; omega, fun tp htp => ?_⟩
      have g := Grow.newO (F := F1) (o := .tup [V.ty T1, V.ty T2]) r1.sub htp
      have ty := rdd_ty g.sh (rd.grow g) ht
      refine ⟨v, tp, [.ty T1, .ty T2], .type t, [.type T1, .type T2], isiB t T1 || isiB t T2, rfl, upd_same, .cons (.ty T1) (.cons (.ty T2) .nil), ty, ?_, q _ _ F1 (e1.trans g.evo) (r1.grow g) rfl⟩
      refine kitAny_cons (kit_ty (hb1 t mem)) (fun h1 => ?_) fun h1 => by rw [h1]; rfl
      rw [h1, Bool.false_or]
      refine kitAny_cons (kit_ty (hb2 t mem)) (fun h2 => ?_) fun h2 => h2
      rw [h2]; rfl⟩
end
end VL

set_option Elab.async false
set_option linter.all false
set_option maxRecDepth 100000
set_option maxHeartbeats 1000000
/-! VL43: enumerate of a list, a text or a tuple. -/
namespace VL
open PySem PySem.Spec PyProof.Rows L2
theorem meets_enum1 {v : Value} {o : Obj} {H : Heap → Prop} (B : Begins v o H) :
    Meets (Builtin.«enumerate.__new__» ⟨[.type "enumerate", v], []⟩) (fun _ R s => H s.heap ∧
      R (.ok (.ret (.ref (s.heap.push o).objs.size))) { s with heap := (s.heap.push o).push { cls := .type "enumerate", data := .fields #[.none, .bool false, .ref s.heap.objs.size, rawInt 0, .none, .none] } }) :=
  .of_wp fun prog w A R s h => by
    obtain ⟨hp, g, d, tk, os⟩ := s; obtain ⟨h1, h⟩ := h
    have hsub := sub_enumerate
    have q1 : ∀ {A' : Around} {E : Value → Shared → Prop} {Q : Value → Shared → Prop}, Q (.ref hp.objs.size) ⟨hp.push o, g, d, tk, os⟩ → wpAny (model prog w) A' (pyIter v) Q E ⟨hp, g, d, tk, os⟩ :=
      fun q => B.iter prog w _ _ ⟨hp, g, d, tk, os⟩ _ h1 q
    wp_walk using q1
    refine wpAny_stack_any fun st => wpAny_pure ?_
    split
    · rename_i c _ _ _ _ _
      cases (c == Value.type "enumerate")
      · wp_walk using q1
        exact ⟨_, rfl, h⟩
      · wp_walk using q1
        exact ⟨_, rfl, h⟩
    · wp_walk using q1
      exact ⟨_, rfl, h⟩
theorem enum1_begins {prog : Program} {w : World} {A : Around} {E : Value → Shared → Prop} {s : Shared} {v : Value} {o : Obj} {H : Heap → Prop} {Q : Value → Shared → Prop} (B : Begins v o H) (h1 : H s.heap)
    (h : ∀ h', IsEnum h' (s.heap.objs.size + 1) s.heap.objs.size 0 .none → h'.get? s.heap.objs.size = some o → h'.objs.size = s.heap.objs.size + 2 →
      (∀ b o, s.heap.get? b = some o → h'.get? b = some o) → Q (.ref (s.heap.objs.size + 1)) { s with heap := h' }) :
    wpAny (model prog w) A (call (.type "enumerate") [v]) Q E s := by
  refine callType_new F.called_enumerate (by decide) (F.typeCall_enumerate_1 _) (F.newCall_enumerate_1 _) (fun obj => F.args_object_init_2 obj _) F.entry_enumerate_new
    (meets_enum1 B) ⟨h1, ?_⟩
  have hz : (s.heap.push o).objs.size = s.heap.objs.size + 1 := Heap.size_push ..
  show _ ∧ _
  rw [hz]
  have he : IsEnum ((s.heap.push o).push { cls := .type "enumerate", data := .fields #[.none, .bool false, .ref s.heap.objs.size, rawInt 0, .none, .none] }) (s.heap.objs.size + 1) s.heap.objs.size 0 .none := by
    have := Heap.get?_push_size (s.heap.push o) (o := { cls := .type "enumerate", data := .fields #[.none, .bool false, .ref s.heap.objs.size, rawInt 0, .none, .none] }) rfl
    rw [hz] at this; exact this
  exact ⟨⟨_, he, rfl⟩, h _ he (Heap.get?_push_of_some _ (Heap.get?_push_size _ B.free)) (by rw [Heap.size_push, hz]) fun b o x => Heap.get?_push_of_some _ (Heap.get?_push_of_some _ x)⟩
def IteT (K : PySem.W.Frag) (a : Addr) : It :=
  ⟨fun i H => ∃ (xs : List V) (x : V), SqT K H a xs ∧ xs[i]? = some x, fun i H v H' => ∃ T x, v = .ref T ∧ H T = none ∧ H' = upd H T (.tup [.int (i : Nat), x]) ∧ ∀ xs, SqT K H a xs → xs[i]? = some x, fun i H => ∃ xs : List V, SqT K H a xs ∧ i = xs.length⟩
theorem turn_enumT {P : Program} {w : World} {K : PySem.W.Frag} {elts : List Expr} {kk : Nat} {tpos : Pos} (a e it : Addr) (hne : e ≠ it) (ha : a ≠ it) (hea : e ≠ a) :
    Turn P w K (.Tuple elts kk tpos) (IteT K a) [e, it] e (fun i h => (∃ old, IsEnum h e it ((i : Nat) : Int) old) ∧ h.IsTupleIter it a i) where
  mem := by simp
  obj := fun i h st b hb => by
    obtain ⟨⟨old, he⟩, ⟨o, ho, hc, hd⟩⟩ := st
    have e' : b = e ∨ b = it := by simpa using hb
    rcases e' with z | z
    · rw [z]; exact ⟨_, he, fun v q => nomatch q⟩
    · rw [z]; exact ⟨o, ho, fun v q => by rw [hd] at q; cases q⟩
  keep := fun i h h' st k => let ⟨⟨old, he⟩, hi⟩ := st; ⟨⟨old, k e (by simp) _ he⟩, hi.at fun o q => k it (by simp) o q⟩
  item := by
    intro X hP hw hK hc i pins s σ H E I hf st hg
    subst hP hw hK
    obtain ⟨⟨old, he⟩, hit⟩ := st
    obtain ⟨xs, x, hq, hx⟩ := hg
    obtain ⟨its, rv, p, _⟩ := I.tuple hq
    obtain ⟨u, hu, ru⟩ := rv.get hx
    have hel : e < s.heap.objs.size := Heap.lt_size he
    have hil : it < s.heap.objs.size := by obtain ⟨_, q, _⟩ := hit; exact Heap.lt_size q
    have D := Draws.tuple (prog := X.prog) (w := X.w) (A := X.A.in1) (I.ok.hd hc) it a ha its.toArray
    have n1 : i < its.toArray.size := by rw [List.size_toArray]; exact (List.getElem?_eq_some_iff.mp hu).1
    refine wpAny_pyNext_enum_itemD D he ⟨hit, p⟩ n1 hne (by simp [hne, hea]) fun u' h' tk hP ho hit' hT hsz hk => ?_
    have hP : its.toArray[i]? = some u' := hP
    rw [show its.toArray[i]? = its[i]? by simp, hu] at hP; cases hP
    refine ⟨_, rfl, wpAny_letOwnedTupleGo_enum (s := { s with heap := h', toks := tk + 1 }) ho fun h'' he' sb => ?_⟩
    have hT2 : h''.get? s.heap.objs.size = some { cls := .type "tuple", data := .seq #[.int i tk, u] } := (sb.2 _ (Nat.ne_of_gt hel)).trans hT
    have new : ObjOk X.prog X.w (upd H s.heap.objs.size (.tup [.int (i : Nat), x])) h'' s.heap.objs.size (.tup [.int (i : Nat), x]) :=
      ⟨by show 2 ≤ sizeLine; decide, [.int i tk, u], .cons ⟨_, rfl⟩ (.cons ru .nil), ⟨_, hT2, rfl, _, rfl⟩⟩
    have I1 : Inv X pins σ (upd H s.heap.objs.size (.tup [.int (i : Nat), x])) { s with heap := h'', toks := tk + 1 } :=
      I.turnedNew (ch := [e, it]) (fun b ob hb q => (sb.2 b (fun z => hb (by simp [z]))).trans (hk b ob (fun z => hb (by simp [z])) (fun z => hb (by simp [z])) q)) hf (Nat.le_refl _) new
    refine ⟨.ref s.heap.objs.size, _, I1, rfl, ⟨_, x, rfl, I.hok.fresh (Nat.le_refl _), rfl, fun l hl => by rw [I.tuple_inj hl hq]; exact hx⟩, ⟨⟨u, ?_⟩, hit'.1.at fun o q => (sb.2 it (Ne.symm hne)).trans q⟩, fun b hb => ?_⟩
    · have e1 : ((i + 1 : Nat) : Int) = (i : Int) + 1 := by omega
      rw [e1]; exact he'
    · have hb' : b < s.heap.objs.size := by
        have e' : b = e ∨ b = it := by simpa using hb
        rcases e' with z | z
        · rw [z]; exact hel
        · rw [z]; exact hil
      rw [upd_ne (Nat.ne_of_lt hb')]
      exact (hf b hb).1
  done := by
    intro X hP hw hK hc i pins s σ H E I hf st hg
    subst hP hw hK
    obtain ⟨⟨old, he⟩, hit⟩ := st
    obtain ⟨xs, hq, rfl⟩ := hg
    obtain ⟨its, rv, p, _⟩ := I.tuple hq
    obtain ⟨f0, f1, f2, f3, f4, f5⟩ := hf it (by simp)
    have D := Draws.tuple (prog := X.prog) (w := X.w) (A := X.A.in1) (I.ok.hd hc) it a ha its.toArray
    have n1 : its.toArray.size = xs.length := by rw [List.size_toArray, ← rv.length]
    exact wpAny_pyNext_enum_endD D he ⟨by rw [n1]; exact hit, p⟩ fun h' eb => ⟨rfl, I.turned (t' := s.toks) (fun b o hb q => eb b o hb q) f0 f1 f3 f4 f5⟩
  self := fun A i s Q E st h => let ⟨⟨_, he⟩, _⟩ := st; wpAny_pyIter_enum he h
def iEnumT (K : PySem.W.Frag) (ta : TA) : TI := fun σ H R => ta σ H fun vs H1 => ∃ a xs, vs = [.ref a] ∧ SqT K H1 a xs ∧ R (IteT K a) H1
theorem pi_enumT {X : Cx} {e : Expr} {ta : TA} {p pos tpos : Pos} {elts : List Expr} {kk : Nat} (hg : Gl X "enumerate") (hm : X.mg "enumerate" = none) (ha : PA X [e] ta) (hs : starEach [e] X.env = [(false, eval e X.env)] := by rfl) :
    PI X (.Tuple elts kk tpos) (.Call (.Name "enumerate" p) [e] [] pos) (iEnumT X.K ta) := by
  refine ⟨fun pins s σ H R I h => ?_⟩
  refine Call_ (ld_blt I hg hm boot_enumerate (PyProof.Rows.callWith_type1 (thn (ha.run pos pins s σ H _ I h) fun us s1 ⟨vs, H1, I1, r1, q1⟩ => ?_) hs rfl))
  obtain ⟨a, xs, ex, hq, q⟩ := q1
  subst ex
  cases r1 with
  | cons r rr =>
    cases rr
    cases r
    obtain ⟨its, rv, p', _⟩ := I1.tuple hq
    obtain ⟨o1, ho1, _⟩ := id p'
    have la := Heap.lt_size ho1
    refine enum1_begins (begins_tuple a its.toArray) p' fun h' he hit hsz hk => wpAny_pyIter_enum he ?_
    have I2 : Inv X pins σ H1 { s1 with heap := h' } := I1.kept (t' := s1.toks) hk
    refine ⟨s1.heap.objs.size + 1, [s1.heap.objs.size + 1, s1.heap.objs.size], _, _, H1, rfl, I2, turn_enumT a (s1.heap.objs.size + 1) s1.heap.objs.size (Nat.succ_ne_self _) (Nat.ne_of_lt la) (Nat.ne_of_gt (Nat.lt_succ_of_lt la)), ⟨⟨.none, he⟩, ⟨_, hit, rfl, rfl⟩⟩, fun b hb => ?_, q⟩
    have hle : s1.heap.objs.size ≤ b := by
      have e' : b = s1.heap.objs.size + 1 ∨ b = s1.heap.objs.size := by simpa using hb
      rcases e' with z | z <;> rw [z]
      · exact Nat.le_add_right _ _
      · exact Nat.le_refl _
    exact I1.fpOk hle (I1.hok.fresh hle)
theorem walks_enumT {K : PySem.W.Frag} {mg : Str → Option Value} {O : Ft} {H F : Hp} {l : List D} {p : Addr} {vs : List V} (hF : SqT K F p vs) (hr : reps K mg F l vs) : Walks K mg (IteT K p) (enumD 0 l) O H F := by
  refine ⟨fun _ _ F => SqT K F p vs ∧ reps K mg F l vs, ⟨hF, hr⟩, fun O1 H1 F1 O2 H2 F2 g e => ⟨Same.sqT e.sf g.1, reps_mono e.sf g.2⟩, ?_⟩
  rintro i O H F ⟨g1, g2⟩ s
  have k1 := Same.sqT s g1
  refine ⟨fun d hd => ?_, fun e => ⟨vs, k1, by rw [e, enumD_length, reps_length g2]⟩⟩
  rw [enumD_get] at hd
  cases hc : l[i]? with
  | none => rw [hc] at hd; cases hd
  | some c =>
    rw [hc] at hd; cases hd
    obtain ⟨v, h1, h2⟩ := reps_get g2 hc
    refine ⟨⟨vs, v, k1, h1⟩, fun y H' ⟨T, x, e1, e2, e3, e4⟩ => ?_⟩
    subst e1 e3
    have a1 := e4 vs k1
    rw [h1] at a1; cases a1
    exact ⟨_, Grow.newF s e2, rep_tup_new e2 s (reps_cons (by simp only [rep, Nat.zero_add]) (reps_one h2))⟩
section
variable {X : Cx} {Γ Γ' : Gm} {W : WE} {tg iter : Expr} {ev : Ev}
def eEnumT (f : Ev) : Eit := fun ρ => (f ρ).bind fun r => match r.1 with
  | .tup l => .ok (enumD 0 l, r.2)
  | _ => .bad
theorem vi_enumT {elts : List Expr} {kk : Nat} (hp : PI X tg iter (iEnumT X.K (trX X Γ Γ' W ev))) : VI X Γ Γ' W tg iter (eEnumT ev) :=
  piImp hp fun σ H R ⟨ρ, F, r, q⟩ => ⟨ρ, F, r, Res.sat_bind.mpr (Res.sat_imp (Res.sat_bind.mp q) (fun z _ q v H1 F1 e1 r1 b1 => by
    cases hz : z.1 <;> rw [hz] at q <;> first | exact q.elim | skip
    have b1 : RdN X.K X.mg (Own Γ' z.2 σ) H1 F1 v z.1 := b1
    rw [hz] at b1
    obtain ⟨p, vs, rfl, h1, h2⟩ := Rdd.tup b1.rdd
    exact ⟨p, vs, rfl, Same.sqT r1.sub h1, q _ H1 F1 e1 r1 (walks_enumT h1 h2)⟩) fun _ h => h)⟩
end
end VL

set_option Elab.async false
set_option linter.all false
set_option maxRecDepth 100000
/-! VM: mirrors: what a def computes, by names in the place of slots; how an evaluator follows its mirror (Sim). -/
namespace VL
open PySem PySem.Spec PyProof.Rows L2

/-! ### steps of a mirror -/
def toB : D → Res Bool
  | .bl b => .ok b
  | _ => .bad
def toI : D → Res Int
  | .int i => .ok i
  | _ => .bad
def toL : D → Res (List D)
  | .lst l => .ok l
  | _ => .bad
def ckB (b : Bool) : Res Unit := if b = true then .ok () else .bad
def nc (d : D) : Res Unit := if cellD d = true then .bad else .ok ()
def lenG (l : List D) : Res Unit := if l.length ≤ 16777216 then .ok () else .bad
def enumR : D → Res (List D)
  | .lst l => .ok (enumD 0 l)
  | .str l => .ok (enumD 0 (l.map fun c => .str [c]))
  | _ => .bad
def exF (cs : List String) (f : String) : D → Res D
  | .exc c fs => if cs.contains c = true then opt (lookF f fs) else .bad
  | _ => .bad
def exI (tb : List (String × Bool)) : D → Res D
  | .exc c _ => (opt (lookB c tb)).bind fun b => .ok (.bl b)
  | _ => .bad
def setR : D → D → D → Res D
  | .lst l, .int n, d => match ixN l.length n with
    | some j => .ok (.lst (l.set j d))
    | none => .bad
  | _, _, _ => .bad
def getI : D → D → Res Int
  | .lst l, .int n => match atI l n with
    | some (.int x) => .ok x
    | _ => .bad
  | _, _ => .bad
def un2 : D → Res (D × D)
  | .tup [a, b] => .ok (a, b)
  | _ => .bad
def un3 : D → Res (D × D × D)
  | .tup [a, b, c] => .ok (a, b, c)
  | _ => .bad
def un4 : D → Res (D × D × D × D)
  | .tup [a, b, c, d] => .ok (a, b, c, d)
  | _ => .bad
def exnR {α : Type} (c : String) (fs : List String) (ds : List D) : Res α := if ds.length = fs.length then .exn ⟨c, (fs.zip ds).reverse⟩ else .bad
inductive Stp (σ R : Type) where
  | next (s : σ) | brk (s : σ) | ret (v : R)
def forN {σ : Type} : List D → σ → (D → σ → Res σ) → Res σ
  | [], s, _ => .ok s
  | d :: ds, s, f => (f d s).bind fun s' => forN ds s' f
def forB {σ R : Type} : List D → σ → (D → σ → Res (Stp σ R)) → Res (Stp σ R)
  | [], s, _ => .ok (.next s)
  | d :: ds, s, f => (f d s).bind fun r => match r with
    | .next s' => forB ds s' f
    | .brk s' => .ok (.next s')
    | .ret v => .ok (.ret v)
def whileB {σ R : Type} : Nat → σ → (σ → Res Bool) → (σ → Res (Stp σ R)) → Res (Stp σ R)
  | 0, _, _, _ => .bad
  | n + 1, s, t, f => (t s).bind fun b => if b = true then (f s).bind fun r => match r with
    | .next s' => whileB n s' t f
    | .brk s' => .ok (.next s')
    | .ret v => .ok (.ret v)
  else .ok (.next s)
def aftF {σ R : Type} (r : Stp σ R) (k : σ → Res R) : Res R := match r with
  | .next s => k s
  | .brk s => k s
  | .ret v => .ok v
def aftL {σ τ R : Type} (r : Stp σ R) (k : σ → Res (Stp τ R)) : Res (Stp τ R) := match r with
  | .next s => k s
  | .brk s => k s
  | .ret v => .ok (.ret v)
def tryM {σ R : Type} (cs : List String) (m : Res (Stp σ R)) (h : D → Res (Stp σ R)) : Res (Stp σ R) := match m with
  | .ok a => .ok a
  | .exn x => if cs.contains x.cls = true then match h (.exc x.cls x.fs) with
      | .ok (.next s) => .ok (.next s)
      | .ok (.ret v) => .ok (.ret v)
      | _ => .bad
    else .bad
  | .bad => .bad
def mMap : List D → (D → Res D) → Res (List D)
  | [], _ => .ok []
  | d :: ds, f => (noexn (f d)).bind fun y => (mMap ds f).bind fun ys => .ok (y :: ys)
def consO : Option D → List D → List D
  | none, l => l
  | some d, l => d :: l
def mFil : List D → (D → Res (Option D)) → Res (List D)
  | [], _ => .ok []
  | d :: ds, f => (noexn (f d)).bind fun y => (mFil ds f).bind fun ys => .ok (consO y ys)
def mMapS {σ : Type} : List D → σ → (D → σ → Res (D × σ)) → Res (List D × σ)
  | [], s, _ => .ok ([], s)
  | d :: ds, s, f => (noexn (f d s)).bind fun y => (mMapS ds y.2 f).bind fun ys => .ok (y.1 :: ys.1, ys.2)
def mFilS {σ : Type} : List D → σ → (D → σ → Res (Option D × σ)) → Res (List D × σ)
  | [], s, _ => .ok ([], s)
  | d :: ds, s, f => (noexn (f d s)).bind fun y => (mFilS ds y.2 f).bind fun ys => .ok (consO y.1 ys.1, ys.2)

/-! ### Sim -/
def Sim {α β : Type} (m : Res α) (r : Res β) (P : α → β → Prop) : Prop := match m with
  | .bad => True
  | .ok a => ∃ b, r = .ok b ∧ P a b
  | .exn x => r = .exn x
section
variable {α β γ δ : Type} {m : Res α} {r : Res β} {P : α → β → Prop} {Q : γ → δ → Prop}
theorem Sim.bind {k : α → Res γ} {f : β → Res δ} (h : Sim m r P) (hk : ∀ a b, P a b → Sim (k a) (f b) Q) : Sim (m.bind k) (r.bind f) Q := by
  cases m with
  | bad => trivial
  | exn x =>
    have h : r = .exn x := h
    subst h; rfl
  | ok a =>
    obtain ⟨b, rfl, p⟩ := h
    exact hk a b p
theorem Sim.bindR {k : α → Res γ} {Q : γ → β → Prop} (h : Sim m r P) (hk : ∀ a b, P a b → Sim (k a) (.ok b) Q) : Sim (m.bind k) r Q := by
  cases m with
  | bad => trivial
  | exn x =>
    have h : r = .exn x := h
    subst h; rfl
  | ok a =>
    obtain ⟨b, rfl, p⟩ := h
    exact hk a b p
theorem Sim.same {k : α → Res γ} {f : α → Res δ} (h : ∀ a, Sim (k a) (f a) Q) : Sim (m.bind k) (m.bind f) Q := by
  cases m with
  | bad => trivial
  | exn x => rfl
  | ok a => exact h a
theorem Sim.ok {a : α} {b : β} (h : P a b) : Sim (.ok a) (.ok b) P := ⟨b, rfl, h⟩
theorem Sim.imp {P' : α → β → Prop} (h : Sim m r P) (i : ∀ a b, P a b → P' a b) : Sim m r P' := by
  cases m with
  | bad => trivial
  | exn x => exact h
  | ok a => obtain ⟨b, e, p⟩ := h; exact ⟨b, e, i a b p⟩
theorem Sim.ite {c : Prop} [Decidable c] {m1 m2 : Res α} {r1 r2 : Res β} (h1 : Sim m1 r1 P) (h2 : Sim m2 r2 P) : Sim (if c then m1 else m2) (if c then r1 else r2) P := by
  split
  · exact h1
  · exact h2
theorem Sim.noexn (h : Sim m r P) : Sim (noexn m) (noexn r) P := by
  cases m with
  | bad => trivial
  | exn x => trivial
  | ok a => obtain ⟨b, rfl, p⟩ := h; exact ⟨b, rfl, p⟩
theorem Sim.to {a : α} (h : Sim m r P) (e : m = .ok a) : ∃ b, r = .ok b ∧ P a b := by subst e; exact h
end
def app (k : Es) (ρ : Env) : Res Fl := k ρ
theorem Sim.app {α : Type} {m : Res α} {k : Es} {ρ : Env} {P : α → Fl → Prop} (h : Sim m (k ρ) P) : Sim m (app k ρ) P := h
def fk (k : Es) : Fl → Res Fl
  | .next ρ => app k ρ
  | x => .ok x

/-! ### the evaluators by steps -/
section
variable {α β γ : Type} {ρ : Env} {d : D}
@[simp] theorem toB_bl (b : Bool) : toB (.bl b) = .ok b := rfl
@[simp] theorem toI_int (b : Int) : toI (.int b) = .ok b := rfl
@[simp] theorem toL_lst (b : List D) : toL (.lst b) = .ok b := rfl
@[simp] theorem ckB_true : ckB true = .ok () := rfl
@[simp] theorem enumR_lst (l : List D) : enumR (.lst l) = .ok (enumD 0 l) := rfl
@[simp] theorem enumR_str (l : List Nat) : enumR (.str l) = .ok (enumD 0 (l.map fun c => .str [c])) := rfl
@[simp] theorem un2_tup (a b : D) : un2 (.tup [a, b]) = .ok (a, b) := rfl
@[simp] theorem un3_tup (a b c : D) : un3 (.tup [a, b, c]) = .ok (a, b, c) := rfl
@[simp] theorem un4_tup (a b c d : D) : un4 (.tup [a, b, c, d]) = .ok (a, b, c, d) := rfl
theorem Res.bind_assoc (m : Res α) (f : α → Res β) (g : β → Res γ) : (m.bind f).bind g = m.bind fun a => (f a).bind g := by cases m <;> rfl
theorem if_ckB {b : Bool} {m : Res α} : (if b = true then m else .bad) = (ckB b).bind fun _ => m := by cases b <;> rfl
theorem if_nc {d : D} {m : Res α} : (if cellD d = true then .bad else m) = (nc d).bind fun _ => m := by unfold nc; cases cellD d <;> rfl
theorem eVarB_q (i : Nat) : eVarB i ρ = (gv ρ i).bind fun d => (nc d).bind fun _ => .ok (d, ρ) := by
  rw [eVarB_ap]; congr 1; funext d; exact if_nc
theorem eUp_q (a : Ev) : eUp a ρ = (a ρ).bind fun r => (nc r.1).bind fun _ => .ok r := by
  unfold eUp; congr 1; funext r; exact if_nc
theorem nc_non' : nc .non = .ok () := rfl
theorem nc_int' (i : Int) : nc (.int i) = .ok () := rfl
theorem nc_bl' (i : Bool) : nc (.bl i) = .ok () := rfl
theorem nc_str' (i : List Nat) : nc (.str i) = .ok () := rfl
theorem nc_tup' (i : List D) : nc (.tup i) = .ok () := rfl
theorem eTB_q (a : Ev) : eTB a ρ = (a ρ).bind fun r => (toB r.1).bind fun b => .ok (b, r.2) := by
  rw [eTB_ap]; congr 1; funext r; cases r.1 <;> rfl
theorem eNeg_q (a : Ev) : eNeg a ρ = (a ρ).bind fun r => (toI r.1).bind fun i => .ok (.int (-i), r.2) := by
  rw [eNeg_ap]; congr 1; funext r; cases r.1 <;> rfl
theorem eNotV_q (a : Ev) : eNotV a ρ = (a ρ).bind fun r => (toB r.1).bind fun b => .ok (.bl (!b), r.2) := by
  rw [eNotV_ap]; congr 1; funext r; cases r.1 <;> rfl
theorem eAndV_q (a b : Ev) : eAndV a b ρ = (a ρ).bind fun r => (toB r.1).bind fun c => if c = true then b r.2 else .ok (.bl false, r.2) := by
  rw [eAndV_ap]; congr 1; funext r; cases r.1 <;> first | rfl | (rename_i b; cases b <;> rfl)
theorem eOrV_q (a b : Ev) : eOrV a b ρ = (a ρ).bind fun r => (toB r.1).bind fun c => if c = true then .ok (.bl true, r.2) else b r.2 := by
  rw [eOrV_ap]; congr 1; funext r; cases r.1 <;> first | rfl | (rename_i b; cases b <;> rfl)
theorem runI_q (f : Ev) : runI (some f) ρ = (f ρ).bind fun r => (toI r.1).bind fun i => .ok (some i, r.2) := by
  rw [runI_s]; congr 1; funext r; cases r.1 <;> rfl
theorem eTup_q (as : List Arg) : eTup as ρ = (Arg.runs as ρ).bind fun p => (Arg.fins as p.1 p.2).bind fun ds => (lenG ds).bind fun _ => .ok (.tup ds, p.2) := by
  rw [eTup_ap]; congr 1; funext p; congr 1; funext ds; unfold lenG; split <;> rfl
theorem eLst_q (as : List Arg) : eLst as ρ = (Arg.runs as ρ).bind fun p => (Arg.fins as p.1 p.2).bind fun ds => (lenG ds).bind fun _ => .ok (.lst ds, p.2) := by
  rw [eLst_ap]; congr 1; funext p; congr 1; funext ds; unfold lenG; split <;> rfl
theorem eChain_q (f f' : D → D → Option D) (oa ob oc : Opd) : eChain f f' oa ob oc ρ = (oa.run ρ).bind fun p => (ob.run p.2).bind fun s => (oa.fin p.1 s.2).bind fun dx => (ob.fin s.1 s.2).bind fun dy => (opt (f dx dy)).bind fun d => (toB d).bind fun c =>
    if c = true then (oc.run s.2).bind fun t => (ob.fin s.1 t.2).bind fun dy => (oc.fin t.1 t.2).bind fun dz => (opt (f' dy dz)).bind fun d => .ok (d, t.2) else .ok (.bl false, s.2) := by
  rw [eChain_ap]; congr 1; funext p; congr 1; funext s; congr 1; funext dx; congr 1; funext dy; congr 1; funext d
  cases d <;> first | rfl | (rename_i b; cases b <;> rfl)
theorem eFn_q (pms : List PM) (f : Fe) (as : List Arg) : eFn pms f as ρ = (Arg.runs as ρ).bind fun p => (Arg.fins as p.1 p.2).bind fun ds => (ckB (ioCells pms ds)).bind fun _ => (f ds).bind fun r => .ok (r.1, setOuts (ioSl as) r.2 p.2) := by
  rw [eFn_ap]; congr 1; funext p; congr 1; funext ds; exact if_ckB
theorem eMut_q (i : Nat) (f : List D → List D → Option (List D × D)) (as : List Arg) : eMut i f as ρ = (gv ρ i).bind fun d0 => (toL d0).bind fun _ => (Arg.runs as ρ).bind fun p => (Arg.fins as p.1 p.2).bind fun ds => (gv p.2 i).bind fun d => (toL d).bind fun l => (opt (f l ds)).bind fun r => .ok (r.2, p.2.set i (some (.lst r.1))) := by
  rw [eMut_ap]; congr 1; funext d0
  cases d0 <;> first | rfl | skip
  simp only [isLst_lst, if_true, toL_lst, Res.bind_ok]
  congr 1; funext p; congr 1; funext ds; congr 1; funext d
  cases d <;> rfl
theorem eMth_q (i : Nat) (f : List D → List D → Option D) (as : List Arg) : eMth i f as ρ = (gv ρ i).bind fun d0 => (toL d0).bind fun _ => (Arg.runs as ρ).bind fun p => (Arg.fins as p.1 p.2).bind fun ds => (gv p.2 i).bind fun d => (toL d).bind fun l => (opt (f l ds)).bind fun r => .ok (r, p.2) := by
  show ((gv ρ i).bind fun d0 => if isLst d0 = true then _ else _) = _
  congr 1; funext d0
  cases d0 <;> first | rfl | skip
  simp only [isLst_lst, if_true, toL_lst, Res.bind_ok]
  congr 1; funext p; congr 1; funext ds; congr 1; funext d
  cases d <;> rfl
theorem eXf_q (i : Nat) (cs : List String) (f : String) : eXf i cs f ρ = (gv ρ i).bind fun d => (exF cs f d).bind fun y => .ok (y, ρ) := by
  rw [eXf_ap]; congr 1; funext d
  cases d <;> first | rfl | skip
  unfold exF
  dsimp only
  split <;> rfl
theorem eIsE_q (i : Nat) (tb : List (String × Bool)) : eIsE i tb ρ = (gv ρ i).bind fun d => (exI tb d).bind fun y => .ok (y, ρ) := by
  rw [eIsE_ap]; congr 1; funext d
  cases d <;> first | rfl | skip
  unfold exI
  dsimp only
  rw [Res.bind_assoc]
  congr 1
theorem eEnum_q (f : Ev) : eEnum f ρ = (f ρ).bind fun r => (enumR r.1).bind fun l => .ok (l, r.2) := by
  rw [eEnum_ap]; congr 1; funext r; cases r.1 <;> rfl
def lcIt (vs : List Nat) (tg : Tg) (cond : Et) (elt : Ev) (d : D) (ρ : Env) : Res (Option D × Env) := (opt (bindT tg d ρ)).bind fun ρ1 => (cond ρ1).bind fun c => if c.1 = true then (elt c.2).bind fun r => .ok (some r.1, wipeE r.2 vs) else .ok (none, wipeE c.2 vs)
def accO (acc : List D) : Option D → List D
  | some y => acc ++ [y]
  | none => acc
theorem accO_cons {acc ys : List D} {y : Option D} : accO acc y ++ ys = acc ++ consO y ys := by cases y <;> simp [accO, consO]
theorem lcGo_q {vs : List Nat} {tg : Tg} {cond : Et} {elt : Ev} {ds acc : List D} : lcGo vs tg cond elt (d :: ds) acc ρ = (noexn (lcIt vs tg cond elt d ρ)).bind fun q => lcGo vs tg cond elt ds (accO acc q.1) q.2 := by
  unfold lcIt
  show (opt (bindT tg d ρ)).bind _ = _
  cases h : bindT tg d ρ with
  | none => rfl
  | some ρ1 =>
    simp only [optS, Res.bind_ok]
    cases cond ρ1 with
    | bad => rfl
    | exn x => rfl
    | ok c =>
      simp only [noexn_ok, Res.bind_ok]
      split
      · cases elt c.2 <;> rfl
      · rfl
theorem eLC_q (it : Eit) (vs : List Nat) (tg : Tg) (cond : Et) (elt : Ev) : eLC it vs tg cond elt ρ = (it ρ).bind fun p => (lenG p.1).bind fun _ => (lcGo vs tg cond elt p.1 [] (wipeE p.2 vs)).bind fun r => .ok (.lst r.1, backE p.2 r.2 vs) := by
  unfold eLC
  congr 1; funext p; unfold lenG; split <;> rfl
/-! statements, with what follows -/
variable {k a b : Es}
theorem sq_nil : sSeq sNil k ρ = app k ρ := rfl
theorem sq_pass : sSeq sPass k ρ = app k ρ := rfl
theorem sq_brk : sSeq sBrk k ρ = .ok (.brk ρ) := rfl
theorem sq_cont : sSeq sCont k ρ = .ok (.cont ρ) := rfl
theorem sq_expr (f : Ev) : sSeq (sExpr f) k ρ = (f ρ).bind fun r => app k r.2 := by
  rw [sSeq_ap, sExpr_ap, Res.bind_assoc]; rfl
theorem sq_ret (f : Ev) : sSeq (sRet f) k ρ = (f ρ).bind fun r => .ok (.ret r.1 r.2) := by
  rw [sSeq_ap, sRet_ap, Res.bind_assoc]; rfl
theorem sq_retN : sSeq sRetN k ρ = .ok (.ret .non ρ) := rfl
theorem sq_set (i : Nat) (f : Ev) : sSeq (sSet i f) k ρ = (f ρ).bind fun r => app k (r.2.set i (some r.1)) := by
  rw [sSeq_ap, sSet_ap, Res.bind_assoc]; rfl
theorem sq_aug (i : Nat) (f : D → D → Option D) (fe : Ev) : sSeq (sAug i f fe) k ρ = (gv ρ i).bind fun x => (fe ρ).bind fun r => (opt (f x r.1)).bind fun d => app k (r.2.set i (some d)) := by
  rw [sSeq_ap, sAug_ap, Res.bind_assoc]; congr 1; funext x; rw [Res.bind_assoc]; congr 1; funext r; rw [Res.bind_assoc]; rfl
theorem sq_asg (t : Tg) (f : Ev) : sSeq (sAsg t f) k ρ = (f ρ).bind fun r => (opt (bindT t r.1 r.2)).bind fun ρ' => app k ρ' := by
  rw [sSeq_ap, sAsg_ap, Res.bind_assoc]; congr 1; funext r; rw [Res.bind_assoc]; rfl
theorem sq_seq : sSeq (sSeq a b) k ρ = sSeq a (sSeq b k) ρ := by
  simp only [sSeq_ap, Res.bind_assoc]; congr 1; funext fl; cases fl <;> rfl
theorem sq_if (t : Et) : sSeq (sIf t a b) k ρ = (t ρ).bind fun r => if r.1 = true then app (sSeq a k) r.2 else app (sSeq b k) r.2 := by
  rw [sSeq_ap, sIf_ap, Res.bind_assoc]; congr 1; funext r; split <;> rfl
theorem sq_for (it : Eit) (tg : Tg) (body : Es) : sSeq (sFor it tg body) k ρ = (it ρ).bind fun p => (forL tg body p.1 p.2).bind (fk k) := by
  rw [sSeq_ap, sFor_ap, Res.bind_assoc]; congr 1
theorem sq_while (n : Nat) (t : Et) (body : Es) : sSeq (sWhile n t body) k ρ = (whileL t body n ρ).bind (fk k) := by
  rw [sSeq_ap]; unfold sWhile; congr 1
theorem sq_try (i : Nat) (ws : List Nat) (cs : List String) : sSeq (sTry i ws cs a b) k ρ = (sTry i ws cs a b ρ).bind (fk k) := by
  rw [sSeq_ap]; congr 1
theorem sRaise_q (c : String) (fs : List String) (as : List Arg) : sRaise c fs as ρ = (Arg.runs as ρ).bind fun p => (Arg.fins as p.1 p.2).bind fun ds => exnR c fs ds := by
  rw [sRaise_ap]; rfl
theorem exnR_bind {c : String} {fs : List String} {ds : List D} {f : α → Res β} : (exnR c fs ds).bind f = exnR c fs ds := by unfold exnR; split <;> rfl
theorem sq_raise (c : String) (fs : List String) (as : List Arg) : sSeq (sRaise c fs as) k ρ = (Arg.runs as ρ).bind fun p => (Arg.fins as p.1 p.2).bind fun ds => exnR c fs ds := by
  rw [sSeq_ap, sRaise_q, Res.bind_assoc]; congr 1; funext p; rw [Res.bind_assoc]; congr 1; funext ds; exact exnR_bind
theorem sPar_q (i j : Nat) (x y : Arg) : sPar i j [x, y] ρ = (Arg.runs [x, y] ρ).bind fun p => (x.fin (p.1.getD 0 none) p.2).bind fun u => (y.fin (p.1.getD 1 none) p.2).bind fun v => .ok (.next ((p.2.set i (some u)).set j (some v))) := by
  rw [sPar_ap]
  simp only [Arg.runs_cons, Arg.runs_nil, Res.bind_assoc, Res.bind_ok, Arg.fins_cons, Arg.fins_nil, List.getD_cons_zero, List.getD_cons_succ]
theorem sq_par (i j : Nat) (x y : Arg) : sSeq (sPar i j [x, y]) k ρ = (Arg.runs [x, y] ρ).bind fun p => (x.fin (p.1.getD 0 none) p.2).bind fun u => (y.fin (p.1.getD 1 none) p.2).bind fun v => app k ((p.2.set i (some u)).set j (some v)) := by
  rw [sSeq_ap, sPar_q]; simp only [Res.bind_assoc, Res.bind_ok]; rfl
theorem sSetIx_q (i : Nat) (fi fe : Ev) : sSetIx i fi fe ρ = (fe ρ).bind fun r => (gv r.2 i).bind fun _ => (fi r.2).bind fun n => (gv n.2 i).bind fun d => (setR d n.1 r.1).bind fun d' => .ok (.next (n.2.set i (some d'))) := by
  unfold sSetIx; congr 1; funext r; congr 1; funext _; congr 1; funext n; congr 1; funext d
  cases d <;> first | rfl | skip
  cases h : n.1 <;> first | rfl | skip
  rename_i l z
  dsimp only [setR]
  cases ixN l.length z <;> rfl
theorem sq_setIx (i : Nat) (fi fe : Ev) : sSeq (sSetIx i fi fe) k ρ = (fe ρ).bind fun r => (gv r.2 i).bind fun _ => (fi r.2).bind fun n => (gv n.2 i).bind fun d => (setR d n.1 r.1).bind fun d' => app k (n.2.set i (some d')) := by
  rw [sSeq_ap, sSetIx_q]; simp only [Res.bind_assoc, Res.bind_ok]; rfl
theorem sAugIx_q (i : Nat) (g : Int → Int → Int) (fi fe : Ev) : sAugIx i g fi fe ρ = (gv ρ i).bind fun _ => (fi ρ).bind fun n => (gv n.2 i).bind fun d0 => (getI d0 n.1).bind fun x => (fe n.2).bind fun r => (toI r.1).bind fun y => (gv r.2 i).bind fun d => (setR d n.1 (.int (g x y))).bind fun d' => .ok (.next (r.2.set i (some d'))) := by
  unfold sAugIx; congr 1; funext _; congr 1; funext n; congr 1; funext d0
  cases d0 <;> first | rfl | skip
  cases h : n.1 <;> first | rfl | skip
  dsimp only [getI]
  cases h2 : atI (α := D) _ _ with
  | none => rfl
  | some x =>
    cases x <;> first | rfl | skip
    simp only [Res.bind_ok]
    congr 1; funext r
    cases r.1 <;> first | rfl | skip
    simp only [toI_int, Res.bind_ok]
    congr 1; funext d
    cases d <;> first | rfl | skip
    rename_i l
    dsimp only [setR]
    cases ixN l.length _ <;> rfl
theorem sq_augIx (i : Nat) (g : Int → Int → Int) (fi fe : Ev) : sSeq (sAugIx i g fi fe) k ρ = (gv ρ i).bind fun _ => (fi ρ).bind fun n => (gv n.2 i).bind fun d0 => (getI d0 n.1).bind fun x => (fe n.2).bind fun r => (toI r.1).bind fun y => (gv r.2 i).bind fun d => (setR d n.1 (.int (g x y))).bind fun d' => app k (r.2.set i (some d')) := by
  rw [sSeq_ap, sAugIx_q]; simp only [Res.bind_assoc, Res.bind_ok]; rfl
/-! the last statement of a block -/
theorem sl_if (t : Et) : sIf t a b ρ = (t ρ).bind fun r => if r.1 = true then app a r.2 else app b r.2 := rfl
theorem fk_nil : fk sNil = fun fl => .ok fl := by funext fl; cases fl <;> rfl
theorem bind_fk_nil {r : Res Fl} : r.bind (fk sNil) = r := by rw [fk_nil]; cases r <;> rfl
theorem sl_for (it : Eit) (tg : Tg) (body : Es) : sFor it tg body ρ = (it ρ).bind fun p => (forL tg body p.1 p.2).bind (fk sNil) := by
  rw [sFor_ap]; congr 1; funext p; rw [bind_fk_nil]
theorem sl_while (n : Nat) (t : Et) (body : Es) : sWhile n t body ρ = (whileL t body n ρ).bind (fk sNil) := by rw [bind_fk_nil]; rfl
/-! targets -/
theorem tg_name (i : Nat) : bindT (.name i) d ρ = some (ρ.set i (some d)) := rfl
theorem opt_bind {x : Option α} {f : α → Option β} : opt (x.bind f) = (opt x).bind fun a => opt (f a) := by cases x <;> rfl
theorem tg_2 (s t : Tg) : opt (bindT (.tup [s, t]) d ρ) = (un2 d).bind fun p => (opt (bindT s p.1 ρ)).bind fun ρ1 => opt (bindT t p.2 ρ1) := by
  cases d <;> first | rfl | skip
  rename_i l
  match l with
  | [] => rfl
  | [_] => show opt ((bindT _ _ _).bind fun _ => none) = _; cases bindT s _ ρ <;> rfl
  | [x, y] =>
    show opt ((bindT s x ρ).bind fun ρ' => (bindT t y ρ').bind fun ρ2 => some ρ2) = _
    simp only [un2_tup, Res.bind_ok, opt_bind]
    congr 1; funext ρ'; cases bindT t y ρ' <;> rfl
  | x :: y :: _ :: _ =>
    show opt ((bindT s x ρ).bind fun ρ' => (bindT t y ρ').bind fun ρ2 => none) = .bad
    cases bindT s x ρ with
    | none => rfl
    | some ρ' =>
      simp only [Option.bind_some]
      cases bindT t y ρ' <;> rfl
theorem tg_3 (s t u : Tg) : opt (bindT (.tup [s, t, u]) d ρ) = (un3 d).bind fun p => (opt (bindT s p.1 ρ)).bind fun ρ1 => (opt (bindT t p.2.1 ρ1)).bind fun ρ2 => opt (bindT u p.2.2 ρ2) := by
  cases d <;> first | rfl | skip
  rename_i l
  have key : ∀ (l : List D) (f : D → D → D → Res Env), (∀ x y z, l = [x, y, z] → opt (bindTs [s, t, u] l ρ) = f x y z) → (l.length ≠ 3 → opt (bindTs [s, t, u] l ρ) = .bad) → opt (bindT (.tup [s, t, u]) (.tup l) ρ) = (un3 (.tup l)).bind fun p => f p.1 p.2.1 p.2.2 := by
    intro l f h1 h2
    match l with
    | [] => exact h2 (by simp)
    | [_] => exact h2 (by simp)
    | [_, _] => exact h2 (by simp)
    | [x, y, z] => exact h1 x y z rfl
    | _ :: _ :: _ :: _ :: _ => exact h2 (by simp)
  have len : ∀ (ts : List Tg) (l : List D) (ρ : Env), l.length ≠ ts.length → bindTs ts l ρ = none := by
    intro ts
    induction ts with
    | nil => intro l ρ h; cases l with
      | nil => exact absurd rfl h
      | cons _ _ => rfl
    | cons t ts ih =>
      intro l ρ h
      cases l with
      | nil => rfl
      | cons d l =>
        show (bindT t d ρ).bind _ = none
        cases bindT t d ρ with
        | none => rfl
        | some ρ' => exact ih l ρ' (by simpa using h)
  refine key l (fun x y z => (opt (bindT s x ρ)).bind fun ρ1 => (opt (bindT t y ρ1)).bind fun ρ2 => opt (bindT u z ρ2)) ?_ ?_
  · rintro x y z rfl
    show opt ((bindT s x ρ).bind fun ρ' => (bindT t y ρ').bind fun ρ2 => (bindT u z ρ2).bind fun ρ3 => some ρ3) = _
    simp only [opt_bind]
    congr 1; funext ρ'; congr 1; funext ρ2; cases bindT u z ρ2 <;> rfl
  · intro h
    rw [len [s, t, u] l ρ (by simpa using h)]; rfl
end
/-! ### loops -/
section
variable {σ τ R : Type} {RR : R → D → Env → Prop} {P : σ → Env → Prop} {tg : Tg} {b k : Es} {s : σ} {ρ : Env} {items : List D}
/-- what the end of a def, of a loop's turn, of a loop is -/
def QR (RR : R → D → Env → Prop) : R → Fl → Prop := fun v fl => (∃ d ρ, fl = Fl.ret d ρ ∧ RR v d ρ) ∨ ∃ ρ, fl = Fl.next ρ ∧ RR v .non ρ
def QN (P : σ → Env → Prop) : σ → Fl → Prop := fun s fl => ∃ ρ, (fl = .next ρ ∨ fl = .cont ρ) ∧ P s ρ
def QS (RR : R → D → Env → Prop) (P : σ → Env → Prop) : Stp σ R → Fl → Prop
  | .next s, fl => ∃ ρ, (fl = .next ρ ∨ fl = .cont ρ) ∧ P s ρ
  | .brk s, fl => ∃ ρ, fl = .brk ρ ∧ P s ρ
  | .ret v, fl => ∃ d ρ, fl = .ret d ρ ∧ RR v d ρ
def QF (RR : R → D → Env → Prop) (P : σ → Env → Prop) : Stp σ R → Fl → Prop
  | .next s, fl => ∃ ρ, fl = .next ρ ∧ P s ρ
  | .brk _, _ => False
  | .ret v, fl => ∃ d ρ, fl = .ret d ρ ∧ RR v d ρ
theorem sim_forN {f : D → σ → Res σ} (hb : ∀ d s ρ, P s ρ → Sim (f d s) ((opt (bindT tg d ρ)).bind b) (QN P)) : ∀ {items : List D} {s : σ} {ρ : Env}, P s ρ → Sim (forN items s f) (forL tg b items ρ) (fun s fl => ∃ ρ, fl = Fl.next ρ ∧ P s ρ)
  | [], s, ρ, h => ⟨_, rfl, ρ, rfl, h⟩
  | d :: ds, s, ρ, h => by
    show Sim ((f d s).bind fun s' => forN ds s' f) ((opt (bindT tg d ρ)).bind fun ρ1 => (b ρ1).bind _) _
    rw [← Res.bind_assoc]
    refine Sim.bind (hb d s ρ h) fun s' fl q => ?_
    obtain ⟨ρ2, rfl | rfl, q⟩ := q
    · exact sim_forN hb q
    · exact sim_forN hb q
theorem sim_forB {f : D → σ → Res (Stp σ R)} (hb : ∀ d s ρ, P s ρ → Sim (f d s) ((opt (bindT tg d ρ)).bind b) (QS RR P)) : ∀ {items : List D} {s : σ} {ρ : Env}, P s ρ → Sim (forB items s f) (forL tg b items ρ) (QF RR P)
  | [], s, ρ, h => ⟨_, rfl, ρ, rfl, h⟩
  | d :: ds, s, ρ, h => by
    show Sim ((f d s).bind fun r => match r with
      | .next s' => forB ds s' f
      | .brk s' => .ok (.next s')
      | .ret v => .ok (.ret v)) ((opt (bindT tg d ρ)).bind fun ρ1 => (b ρ1).bind _) _
    rw [← Res.bind_assoc]
    refine Sim.bind (hb d s ρ h) fun r fl q => ?_
    cases r with
    | next s' =>
      obtain ⟨ρ2, rfl | rfl, q⟩ := q
      · exact sim_forB hb q
      · exact sim_forB hb q
    | brk s' =>
      obtain ⟨ρ2, rfl, q⟩ := q
      exact ⟨_, rfl, ρ2, rfl, q⟩
    | ret v =>
      obtain ⟨d, ρ2, rfl, q⟩ := q
      exact ⟨_, rfl, d, ρ2, rfl, q⟩
theorem sim_whileB {et : Et} {t : σ → Res Bool} {f : σ → Res (Stp σ R)} (ht : ∀ s ρ, P s ρ → Sim (t s) (et ρ) (fun c q => q.1 = c ∧ P s q.2)) (hb : ∀ s ρ, P s ρ → Sim (f s) (b ρ) (QS RR P)) : ∀ {n : Nat} {s : σ} {ρ : Env}, P s ρ → Sim (whileB n s t f) (whileL et b n ρ) (QF RR P)
  | 0, _, _, _ => trivial
  | n + 1, s, ρ, h => by
    unfold whileB whileL
    refine Sim.bind (ht s ρ h) ?_
    rintro c ⟨c', ρ1⟩ ⟨rfl, h1⟩
    refine Sim.ite ?_ ⟨_, rfl, ρ1, rfl, h1⟩
    refine Sim.bind (hb s ρ1 h1) fun r fl q => ?_
    cases r with
    | next s' =>
      obtain ⟨ρ2, rfl | rfl, q⟩ := q
      · exact sim_whileB ht hb q
      · exact sim_whileB ht hb q
    | brk s' =>
      obtain ⟨ρ2, rfl, q⟩ := q
      exact ⟨_, rfl, ρ2, rfl, q⟩
    | ret v =>
      obtain ⟨d, ρ2, rfl, q⟩ := q
      exact ⟨_, rfl, d, ρ2, rfl, q⟩
theorem sim_aftN {β : Type} {Q : β → Fl → Prop} {m : Res β} {s : σ} {fl : Fl} (h : ∃ ρ : Env, fl = Fl.next ρ ∧ P s ρ) (hk : ∀ ρ, P s ρ → Sim m (k ρ) Q) : Sim m (fk k fl) Q := by
  obtain ⟨ρ, rfl, h⟩ := h
  exact hk ρ h
theorem sim_aftF {g : σ → Res R} {r : Stp σ R} {fl : Fl} (h : QF RR P r fl) (hk : ∀ s ρ, P s ρ → Sim (g s) (k ρ) (QR RR)) : Sim (aftF r g) (fk k fl) (QR RR) := by
  cases r with
  | next s => obtain ⟨ρ, rfl, h⟩ := h; exact hk s ρ h
  | brk s => exact h.elim
  | ret v => obtain ⟨d, ρ, rfl, h⟩ := h; exact ⟨_, rfl, .inl ⟨d, ρ, rfl, h⟩⟩
theorem sim_aftL {P' : τ → Env → Prop} {g : σ → Res (Stp τ R)} {r : Stp σ R} {fl : Fl} (h : QF RR P r fl) (hk : ∀ s ρ, P s ρ → Sim (g s) (k ρ) (QS RR P')) : Sim (aftL r g) (fk k fl) (QS RR P') := by
  cases r with
  | next s => obtain ⟨ρ, rfl, h⟩ := h; exact hk s ρ h
  | brk s => exact h.elim
  | ret v => obtain ⟨d, ρ, rfl, h⟩ := h; exact ⟨_, rfl, d, ρ, rfl, h⟩
theorem sim_try {i : Nat} {ws : List Nat} {cs : List String} {a c : Es} {m : Res (Stp σ R)} {h : D → Res (Stp σ R)} (hm : Sim m (a ρ) (QF RR P)) (hh : ∀ d, Sim (h d) (c ((wipeE ρ ws).set i (some d))) (QF RR fun s ρ' => P s (ρ'.set i none))) :
    Sim (tryM cs m h) (sTry i ws cs a c ρ) (QF RR P) := by
  unfold tryM sTry
  cases m with
  | bad => trivial
  | ok s => obtain ⟨fl, e, q⟩ := hm; rw [e]; exact ⟨_, rfl, q⟩
  | exn x =>
    have hm : a ρ = .exn x := hm
    rw [hm]
    dsimp only
    split
    · rename_i hc
      have := hh (.exc x.cls x.fs)
      cases hx : h (.exc x.cls x.fs) with
      | bad => trivial
      | exn y => trivial
      | ok s =>
        rw [hx] at this
        obtain ⟨fl, e, q⟩ := this
        rw [e]
        cases s with
        | next s => obtain ⟨ρ2, rfl, q⟩ := q; exact ⟨_, rfl, _, rfl, q⟩
        | brk s => exact q.elim
        | ret v => obtain ⟨d, ρ2, rfl, q⟩ := q; exact ⟨_, rfl, _, _, rfl, q⟩
    · trivial
end
/-! ### comprehensions -/
section
variable {σ : Type} {P : σ → Env → Prop} {vs : List Nat} {tg : Tg} {cond : Et} {elt : Ev} {ρ : Env}
theorem sim_filS {f : D → σ → Res (Option D × σ)} (hb : ∀ d s ρ, P s ρ → Sim (f d s) (lcIt vs tg cond elt d ρ) (fun a b => b.1 = a.1 ∧ P a.2 b.2)) : ∀ {items acc : List D} {s : σ} {ρ : Env}, P s ρ → Sim (mFilS items s f) (lcGo vs tg cond elt items acc ρ) (fun a b => b.1 = acc ++ a.1 ∧ P a.2 b.2)
  | [], acc, s, ρ, h => ⟨(acc, ρ), rfl, by simp, h⟩
  | d :: ds, acc, s, ρ, h => by
    rw [lcGo_q]
    refine Sim.bind (Sim.noexn (hb d s ρ h)) ?_
    rintro ⟨y, s'⟩ ⟨y', ρ'⟩ ⟨e, h'⟩
    have e : y' = y := e
    subst e
    have ih := sim_filS hb (items := ds) (acc := accO acc y') h'
    have : lcGo vs tg cond elt ds (accO acc y') ρ' = (lcGo vs tg cond elt ds (accO acc y') ρ').bind .ok := by cases lcGo vs tg cond elt ds (accO acc y') ρ' <;> rfl
    show Sim _ (lcGo vs tg cond elt ds (accO acc y') ρ') _
    rw [this]
    refine Sim.bind ih ?_
    rintro ⟨ys, s2⟩ ⟨l, ρ2⟩ ⟨e, h2⟩
    refine ⟨_, rfl, ?_, h2⟩
    have e : l = (accO acc y') ++ ys := e
    rw [e]
    exact accO_cons
theorem sim_mapS {f : D → σ → Res (D × σ)} (hb : ∀ d s ρ, P s ρ → Sim (f d s) (lcIt vs tg cond elt d ρ) (fun a b => b.1 = some a.1 ∧ P a.2 b.2)) : ∀ {items acc : List D} {s : σ} {ρ : Env}, P s ρ → Sim (mMapS items s f) (lcGo vs tg cond elt items acc ρ) (fun a b => b.1 = acc ++ a.1 ∧ P a.2 b.2)
  | [], acc, s, ρ, h => ⟨(acc, ρ), rfl, by simp, h⟩
  | d :: ds, acc, s, ρ, h => by
    rw [lcGo_q]
    refine Sim.bind (Sim.noexn (hb d s ρ h)) ?_
    rintro ⟨y, s'⟩ ⟨y', ρ'⟩ ⟨e, h'⟩
    have e : y' = some y := e
    subst e
    have ih := sim_mapS hb (items := ds) (acc := acc ++ [y]) h'
    have : lcGo vs tg cond elt ds (acc ++ [y]) ρ' = (lcGo vs tg cond elt ds (acc ++ [y]) ρ').bind .ok := by cases lcGo vs tg cond elt ds (acc ++ [y]) ρ' <;> rfl
    show Sim _ (lcGo vs tg cond elt ds (acc ++ [y]) ρ') _
    rw [this]
    refine Sim.bind ih ?_
    rintro ⟨ys, s2⟩ ⟨l, ρ2⟩ ⟨e, h2⟩
    refine ⟨_, rfl, ?_, h2⟩
    have e : l = (acc ++ [y]) ++ ys := e
    rw [e]; simp
theorem sim_fil {f : D → Res (Option D)} {E : Env} (hb : ∀ d, Sim (f d) (lcIt vs tg cond elt d E) (fun a b => b = (a, E))) : ∀ {items acc : List D}, Sim (mFil items f) (lcGo vs tg cond elt items acc E) (fun a b => b = (acc ++ a, E))
  | [], acc => ⟨(acc, E), rfl, by simp⟩
  | d :: ds, acc => by
    rw [lcGo_q]
    refine Sim.bind (Sim.noexn (hb d)) ?_
    rintro y' _ rfl
    have ih := sim_fil hb (items := ds) (acc := accO acc y')
    have : lcGo vs tg cond elt ds (accO acc y') E = (lcGo vs tg cond elt ds (accO acc y') E).bind .ok := by cases lcGo vs tg cond elt ds (accO acc y') E <;> rfl
    show Sim _ (lcGo vs tg cond elt ds (accO acc y') E) _
    rw [this]
    refine Sim.bind ih ?_
    rintro ys _ rfl
    exact ⟨_, rfl, by rw [accO_cons]⟩
theorem sim_map {f : D → Res D} {E : Env} (hb : ∀ d, Sim (f d) (lcIt vs tg cond elt d E) (fun a b => b = (some a, E))) : ∀ {items acc : List D}, Sim (mMap items f) (lcGo vs tg cond elt items acc E) (fun a b => b = (acc ++ a, E))
  | [], acc => ⟨(acc, E), rfl, by simp⟩
  | d :: ds, acc => by
    rw [lcGo_q]
    refine Sim.bind (Sim.noexn (hb d)) ?_
    rintro y _ rfl
    have ih := sim_map hb (items := ds) (acc := acc ++ [y])
    have : lcGo vs tg cond elt ds (acc ++ [y]) E = (lcGo vs tg cond elt ds (acc ++ [y]) E).bind .ok := by cases lcGo vs tg cond elt ds (acc ++ [y]) E <;> rfl
    show Sim _ (lcGo vs tg cond elt ds (acc ++ [y]) E) _
    rw [this]
    refine Sim.bind ih ?_
    rintro ys _ rfl
    exact ⟨_, rfl, by simp⟩
end
/-! ### defs -/
theorem sim_fn {R : Type} {RR : R → D → Env → Prop} {m : Res R} {os : R → D × List D} {pms : List PM} {n : Nat} {b : Es} {ds : List D} {E : Env} (hE : ds.map some ++ List.replicate (n - ds.length) none = E)
    (hr : ∀ v d ρ, RR v d ρ → (os v).1 = d ∧ outsOf (ioIx 0 pms) ρ = .ok (os v).2) (h : Sim m (b E) (QR RR)) : Sim m (fnEv pms n b ds) (fun v q => q = os v) := by
  subst hE
  unfold fnEv
  have : m = m.bind .ok := by cases m <;> rfl
  rw [this]
  refine Sim.bind h fun v fl q => ?_
  rcases q with ⟨d, ρ, rfl, q⟩ | ⟨ρ, rfl, q⟩
  · obtain ⟨h1, h2⟩ := hr _ _ _ q
    dsimp only
    rw [h2, ← h1]
    exact ⟨_, rfl, rfl⟩
  · obtain ⟨h1, h2⟩ := hr _ _ _ q
    dsimp only
    rw [h2, ← h1]
    exact ⟨_, rfl, rfl⟩
abbrev RR0 : D → D → Env → Prop := fun v d _ => v = d
abbrev RR1 (i : Nat) : D × D → D → Env → Prop := fun v d ρ => v.1 = d ∧ gv ρ i = .ok v.2
abbrev RR2 (i j : Nat) : D × D × D → D → Env → Prop := fun v d ρ => v.1 = d ∧ gv ρ i = .ok v.2.1 ∧ gv ρ j = .ok v.2.2
theorem rr0 {pms : List PM} (h : ioIx 0 pms = [] := by rfl) : ∀ v d ρ, RR0 v d ρ → ((fun v : D => (v, ([] : List D))) v).1 = d ∧ outsOf (ioIx 0 pms) ρ = .ok ((fun v : D => (v, ([] : List D))) v).2 := fun v d ρ e => ⟨e, by rw [h]; rfl⟩
theorem rr1 {pms : List PM} {i : Nat} (h : ioIx 0 pms = [i] := by rfl) : ∀ v d ρ, RR1 i v d ρ → ((fun v : D × D => (v.1, [v.2])) v).1 = d ∧ outsOf (ioIx 0 pms) ρ = .ok ((fun v : D × D => (v.1, [v.2])) v).2 := fun v d ρ e => ⟨e.1, by rw [h, outsOf_cons, e.2]; rfl⟩
theorem rr2 {pms : List PM} {i j : Nat} (h : ioIx 0 pms = [i, j] := by rfl) : ∀ v d ρ, RR2 i j v d ρ → ((fun v : D × D × D => (v.1, [v.2.1, v.2.2])) v).1 = d ∧ outsOf (ioIx 0 pms) ρ = .ok ((fun v : D × D × D => (v.1, [v.2.1, v.2.2])) v).2 := fun v d ρ e => ⟨e.1, by rw [h, outsOf_cons, e.2.1, outsOf_cons, e.2.2]; rfl⟩
/-! ### draws -/
def mDraw (f n : D) : Res (D × D) := match vDraw [f, n] with
  | .ok (r, [f']) => .ok (r, f')
  | _ => .bad
theorem sim_draw (f n : D) : Sim (mDraw f n) (vDraw [f, n]) (fun v q => q = (v.1, [v.2])) := by
  unfold mDraw
  split
  · rename_i h; rw [h]; exact ⟨_, rfl, rfl⟩
  · trivial
theorem mDraw_ok {d : D} {m : Int} (h : Feed d) (h0 : 0 < m) (h1 : m < 1073741824) : ∃ r d', mDraw d (.int m) = .ok (.int r, d') ∧ 0 ≤ r ∧ r < m ∧ Feed d' := by
  obtain ⟨r, d', e, h2⟩ := draw_ok h h0 h1
  exact ⟨r, d', by unfold mDraw; rw [e], h2⟩

theorem lenG_0 : lenG [] = .ok () := if_pos (Nat.le_of_ble_eq_true rfl)
theorem lenG_1 {x0 : D} : lenG [x0] = .ok () := if_pos (Nat.le_of_ble_eq_true rfl)
theorem lenG_2 {x0 x1 : D} : lenG [x0, x1] = .ok () := if_pos (Nat.le_of_ble_eq_true rfl)
theorem lenG_3 {x0 x1 x2 : D} : lenG [x0, x1, x2] = .ok () := if_pos (Nat.le_of_ble_eq_true rfl)
theorem lenG_4 {x0 x1 x2 x3 : D} : lenG [x0, x1, x2, x3] = .ok () := if_pos (Nat.le_of_ble_eq_true rfl)
theorem lenG_5 {x0 x1 x2 x3 x4 : D} : lenG [x0, x1, x2, x3, x4] = .ok () := if_pos (Nat.le_of_ble_eq_true rfl)
theorem lenG_6 {x0 x1 x2 x3 x4 x5 : D} : lenG [x0, x1, x2, x3, x4, x5] = .ok () := if_pos (Nat.le_of_ble_eq_true rfl)
theorem lenG_7 {x0 x1 x2 x3 x4 x5 x6 : D} : lenG [x0, x1, x2, x3, x4, x5, x6] = .ok () := if_pos (Nat.le_of_ble_eq_true rfl)
theorem lenG_8 {x0 x1 x2 x3 x4 x5 x6 x7 : D} : lenG [x0, x1, x2, x3, x4, x5, x6, x7] = .ok () := if_pos (Nat.le_of_ble_eq_true rfl)
theorem lenG_9 {x0 x1 x2 x3 x4 x5 x6 x7 x8 : D} : lenG [x0, x1, x2, x3, x4, x5, x6, x7, x8] = .ok () := if_pos (Nat.le_of_ble_eq_true rfl)
theorem lenG_10 {x0 x1 x2 x3 x4 x5 x6 x7 x8 x9 : D} : lenG [x0, x1, x2, x3, x4, x5, x6, x7, x8, x9] = .ok () := if_pos (Nat.le_of_ble_eq_true rfl)
theorem lenG_11 {x0 x1 x2 x3 x4 x5 x6 x7 x8 x9 x10 : D} : lenG [x0, x1, x2, x3, x4, x5, x6, x7, x8, x9, x10] = .ok () := if_pos (Nat.le_of_ble_eq_true rfl)
theorem lenG_12 {x0 x1 x2 x3 x4 x5 x6 x7 x8 x9 x10 x11 : D} : lenG [x0, x1, x2, x3, x4, x5, x6, x7, x8, x9, x10, x11] = .ok () := if_pos (Nat.le_of_ble_eq_true rfl)
theorem lenG_13 {x0 x1 x2 x3 x4 x5 x6 x7 x8 x9 x10 x11 x12 : D} : lenG [x0, x1, x2, x3, x4, x5, x6, x7, x8, x9, x10, x11, x12] = .ok () := if_pos (Nat.le_of_ble_eq_true rfl)
theorem lenG_14 {x0 x1 x2 x3 x4 x5 x6 x7 x8 x9 x10 x11 x12 x13 : D} : lenG [x0, x1, x2, x3, x4, x5, x6, x7, x8, x9, x10, x11, x12, x13] = .ok () := if_pos (Nat.le_of_ble_eq_true rfl)
theorem lenG_15 {x0 x1 x2 x3 x4 x5 x6 x7 x8 x9 x10 x11 x12 x13 x14 : D} : lenG [x0, x1, x2, x3, x4, x5, x6, x7, x8, x9, x10, x11, x12, x13, x14] = .ok () := if_pos (Nat.le_of_ble_eq_true rfl)
theorem lenG_16 {x0 x1 x2 x3 x4 x5 x6 x7 x8 x9 x10 x11 x12 x13 x14 x15 : D} : lenG [x0, x1, x2, x3, x4, x5, x6, x7, x8, x9, x10, x11, x12, x13, x14, x15] = .ok () := if_pos (Nat.le_of_ble_eq_true rfl)
theorem lenG_17 {x0 x1 x2 x3 x4 x5 x6 x7 x8 x9 x10 x11 x12 x13 x14 x15 x16 : D} : lenG [x0, x1, x2, x3, x4, x5, x6, x7, x8, x9, x10, x11, x12, x13, x14, x15, x16] = .ok () := if_pos (Nat.le_of_ble_eq_true rfl)
theorem lenG_18 {x0 x1 x2 x3 x4 x5 x6 x7 x8 x9 x10 x11 x12 x13 x14 x15 x16 x17 : D} : lenG [x0, x1, x2, x3, x4, x5, x6, x7, x8, x9, x10, x11, x12, x13, x14, x15, x16, x17] = .ok () := if_pos (Nat.le_of_ble_eq_true rfl)
theorem lenG_19 {x0 x1 x2 x3 x4 x5 x6 x7 x8 x9 x10 x11 x12 x13 x14 x15 x16 x17 x18 : D} : lenG [x0, x1, x2, x3, x4, x5, x6, x7, x8, x9, x10, x11, x12, x13, x14, x15, x16, x17, x18] = .ok () := if_pos (Nat.le_of_ble_eq_true rfl)
theorem lenG_20 {x0 x1 x2 x3 x4 x5 x6 x7 x8 x9 x10 x11 x12 x13 x14 x15 x16 x17 x18 x19 : D} : lenG [x0, x1, x2, x3, x4, x5, x6, x7, x8, x9, x10, x11, x12, x13, x14, x15, x16, x17, x18, x19] = .ok () := if_pos (Nat.le_of_ble_eq_true rfl)
theorem lenG_21 {x0 x1 x2 x3 x4 x5 x6 x7 x8 x9 x10 x11 x12 x13 x14 x15 x16 x17 x18 x19 x20 : D} : lenG [x0, x1, x2, x3, x4, x5, x6, x7, x8, x9, x10, x11, x12, x13, x14, x15, x16, x17, x18, x19, x20] = .ok () := if_pos (Nat.le_of_ble_eq_true rfl)
theorem lenG_22 {x0 x1 x2 x3 x4 x5 x6 x7 x8 x9 x10 x11 x12 x13 x14 x15 x16 x17 x18 x19 x20 x21 : D} : lenG [x0, x1, x2, x3, x4, x5, x6, x7, x8, x9, x10, x11, x12, x13, x14, x15, x16, x17, x18, x19, x20, x21] = .ok () := if_pos (Nat.le_of_ble_eq_true rfl)
theorem lenG_23 {x0 x1 x2 x3 x4 x5 x6 x7 x8 x9 x10 x11 x12 x13 x14 x15 x16 x17 x18 x19 x20 x21 x22 : D} : lenG [x0, x1, x2, x3, x4, x5, x6, x7, x8, x9, x10, x11, x12, x13, x14, x15, x16, x17, x18, x19, x20, x21, x22] = .ok () := if_pos (Nat.le_of_ble_eq_true rfl)
theorem lenG_24 {x0 x1 x2 x3 x4 x5 x6 x7 x8 x9 x10 x11 x12 x13 x14 x15 x16 x17 x18 x19 x20 x21 x22 x23 : D} : lenG [x0, x1, x2, x3, x4, x5, x6, x7, x8, x9, x10, x11, x12, x13, x14, x15, x16, x17, x18, x19, x20, x21, x22, x23] = .ok () := if_pos (Nat.le_of_ble_eq_true rfl)
theorem lenG_25 {x0 x1 x2 x3 x4 x5 x6 x7 x8 x9 x10 x11 x12 x13 x14 x15 x16 x17 x18 x19 x20 x21 x22 x23 x24 : D} : lenG [x0, x1, x2, x3, x4, x5, x6, x7, x8, x9, x10, x11, x12, x13, x14, x15, x16, x17, x18, x19, x20, x21, x22, x23, x24] = .ok () := if_pos (Nat.le_of_ble_eq_true rfl)
theorem lenG_26 {x0 x1 x2 x3 x4 x5 x6 x7 x8 x9 x10 x11 x12 x13 x14 x15 x16 x17 x18 x19 x20 x21 x22 x23 x24 x25 : D} : lenG [x0, x1, x2, x3, x4, x5, x6, x7, x8, x9, x10, x11, x12, x13, x14, x15, x16, x17, x18, x19, x20, x21, x22, x23, x24, x25] = .ok () := if_pos (Nat.le_of_ble_eq_true rfl)
theorem lenG_27 {x0 x1 x2 x3 x4 x5 x6 x7 x8 x9 x10 x11 x12 x13 x14 x15 x16 x17 x18 x19 x20 x21 x22 x23 x24 x25 x26 : D} : lenG [x0, x1, x2, x3, x4, x5, x6, x7, x8, x9, x10, x11, x12, x13, x14, x15, x16, x17, x18, x19, x20, x21, x22, x23, x24, x25, x26] = .ok () := if_pos (Nat.le_of_ble_eq_true rfl)
theorem lenG_28 {x0 x1 x2 x3 x4 x5 x6 x7 x8 x9 x10 x11 x12 x13 x14 x15 x16 x17 x18 x19 x20 x21 x22 x23 x24 x25 x26 x27 : D} : lenG [x0, x1, x2, x3, x4, x5, x6, x7, x8, x9, x10, x11, x12, x13, x14, x15, x16, x17, x18, x19, x20, x21, x22, x23, x24, x25, x26, x27] = .ok () := if_pos (Nat.le_of_ble_eq_true rfl)
theorem lenG_29 {x0 x1 x2 x3 x4 x5 x6 x7 x8 x9 x10 x11 x12 x13 x14 x15 x16 x17 x18 x19 x20 x21 x22 x23 x24 x25 x26 x27 x28 : D} : lenG [x0, x1, x2, x3, x4, x5, x6, x7, x8, x9, x10, x11, x12, x13, x14, x15, x16, x17, x18, x19, x20, x21, x22, x23, x24, x25, x26, x27, x28] = .ok () := if_pos (Nat.le_of_ble_eq_true rfl)
theorem lenG_30 {x0 x1 x2 x3 x4 x5 x6 x7 x8 x9 x10 x11 x12 x13 x14 x15 x16 x17 x18 x19 x20 x21 x22 x23 x24 x25 x26 x27 x28 x29 : D} : lenG [x0, x1, x2, x3, x4, x5, x6, x7, x8, x9, x10, x11, x12, x13, x14, x15, x16, x17, x18, x19, x20, x21, x22, x23, x24, x25, x26, x27, x28, x29] = .ok () := if_pos (Nat.le_of_ble_eq_true rfl)
theorem lenG_31 {x0 x1 x2 x3 x4 x5 x6 x7 x8 x9 x10 x11 x12 x13 x14 x15 x16 x17 x18 x19 x20 x21 x22 x23 x24 x25 x26 x27 x28 x29 x30 : D} : lenG [x0, x1, x2, x3, x4, x5, x6, x7, x8, x9, x10, x11, x12, x13, x14, x15, x16, x17, x18, x19, x20, x21, x22, x23, x24, x25, x26, x27, x28, x29, x30] = .ok () := if_pos (Nat.le_of_ble_eq_true rfl)
theorem lenG_32 {x0 x1 x2 x3 x4 x5 x6 x7 x8 x9 x10 x11 x12 x13 x14 x15 x16 x17 x18 x19 x20 x21 x22 x23 x24 x25 x26 x27 x28 x29 x30 x31 : D} : lenG [x0, x1, x2, x3, x4, x5, x6, x7, x8, x9, x10, x11, x12, x13, x14, x15, x16, x17, x18, x19, x20, x21, x22, x23, x24, x25, x26, x27, x28, x29, x30, x31] = .ok () := if_pos (Nat.le_of_ble_eq_true rfl)
theorem lenG_33 {x0 x1 x2 x3 x4 x5 x6 x7 x8 x9 x10 x11 x12 x13 x14 x15 x16 x17 x18 x19 x20 x21 x22 x23 x24 x25 x26 x27 x28 x29 x30 x31 x32 : D} : lenG [x0, x1, x2, x3, x4, x5, x6, x7, x8, x9, x10, x11, x12, x13, x14, x15, x16, x17, x18, x19, x20, x21, x22, x23, x24, x25, x26, x27, x28, x29, x30, x31, x32] = .ok () := if_pos (Nat.le_of_ble_eq_true rfl)
theorem lenG_34 {x0 x1 x2 x3 x4 x5 x6 x7 x8 x9 x10 x11 x12 x13 x14 x15 x16 x17 x18 x19 x20 x21 x22 x23 x24 x25 x26 x27 x28 x29 x30 x31 x32 x33 : D} : lenG [x0, x1, x2, x3, x4, x5, x6, x7, x8, x9, x10, x11, x12, x13, x14, x15, x16, x17, x18, x19, x20, x21, x22, x23, x24, x25, x26, x27, x28, x29, x30, x31, x32, x33] = .ok () := if_pos (Nat.le_of_ble_eq_true rfl)
theorem lenG_35 {x0 x1 x2 x3 x4 x5 x6 x7 x8 x9 x10 x11 x12 x13 x14 x15 x16 x17 x18 x19 x20 x21 x22 x23 x24 x25 x26 x27 x28 x29 x30 x31 x32 x33 x34 : D} : lenG [x0, x1, x2, x3, x4, x5, x6, x7, x8, x9, x10, x11, x12, x13, x14, x15, x16, x17, x18, x19, x20, x21, x22, x23, x24, x25, x26, x27, x28, x29, x30, x31, x32, x33, x34] = .ok () := if_pos (Nat.le_of_ble_eq_true rfl)
theorem lenG_36 {x0 x1 x2 x3 x4 x5 x6 x7 x8 x9 x10 x11 x12 x13 x14 x15 x16 x17 x18 x19 x20 x21 x22 x23 x24 x25 x26 x27 x28 x29 x30 x31 x32 x33 x34 x35 : D} : lenG [x0, x1, x2, x3, x4, x5, x6, x7, x8, x9, x10, x11, x12, x13, x14, x15, x16, x17, x18, x19, x20, x21, x22, x23, x24, x25, x26, x27, x28, x29, x30, x31, x32, x33, x34, x35] = .ok () := if_pos (Nat.le_of_ble_eq_true rfl)
theorem lenG_37 {x0 x1 x2 x3 x4 x5 x6 x7 x8 x9 x10 x11 x12 x13 x14 x15 x16 x17 x18 x19 x20 x21 x22 x23 x24 x25 x26 x27 x28 x29 x30 x31 x32 x33 x34 x35 x36 : D} : lenG [x0, x1, x2, x3, x4, x5, x6, x7, x8, x9, x10, x11, x12, x13, x14, x15, x16, x17, x18, x19, x20, x21, x22, x23, x24, x25, x26, x27, x28, x29, x30, x31, x32, x33, x34, x35, x36] = .ok () := if_pos (Nat.le_of_ble_eq_true rfl)
theorem lenG_38 {x0 x1 x2 x3 x4 x5 x6 x7 x8 x9 x10 x11 x12 x13 x14 x15 x16 x17 x18 x19 x20 x21 x22 x23 x24 x25 x26 x27 x28 x29 x30 x31 x32 x33 x34 x35 x36 x37 : D} : lenG [x0, x1, x2, x3, x4, x5, x6, x7, x8, x9, x10, x11, x12, x13, x14, x15, x16, x17, x18, x19, x20, x21, x22, x23, x24, x25, x26, x27, x28, x29, x30, x31, x32, x33, x34, x35, x36, x37] = .ok () := if_pos (Nat.le_of_ble_eq_true rfl)
theorem lenG_39 {x0 x1 x2 x3 x4 x5 x6 x7 x8 x9 x10 x11 x12 x13 x14 x15 x16 x17 x18 x19 x20 x21 x22 x23 x24 x25 x26 x27 x28 x29 x30 x31 x32 x33 x34 x35 x36 x37 x38 : D} : lenG [x0, x1, x2, x3, x4, x5, x6, x7, x8, x9, x10, x11, x12, x13, x14, x15, x16, x17, x18, x19, x20, x21, x22, x23, x24, x25, x26, x27, x28, x29, x30, x31, x32, x33, x34, x35, x36, x37, x38] = .ok () := if_pos (Nat.le_of_ble_eq_true rfl)
theorem lenG_40 {x0 x1 x2 x3 x4 x5 x6 x7 x8 x9 x10 x11 x12 x13 x14 x15 x16 x17 x18 x19 x20 x21 x22 x23 x24 x25 x26 x27 x28 x29 x30 x31 x32 x33 x34 x35 x36 x37 x38 x39 : D} : lenG [x0, x1, x2, x3, x4, x5, x6, x7, x8, x9, x10, x11, x12, x13, x14, x15, x16, x17, x18, x19, x20, x21, x22, x23, x24, x25, x26, x27, x28, x29, x30, x31, x32, x33, x34, x35, x36, x37, x38, x39] = .ok () := if_pos (Nat.le_of_ble_eq_true rfl)
theorem eOut_0 {i : Nat} {ρ : Env} : eOut [] i ρ = eVar i ρ := rfl
theorem gv_get {ρ : Env} {j : Nat} {m : Res (D × Env)} : (if (match ρ[j]? with | some (some _) => true | _ => false) = true then m else .bad) = (gv ρ j).bind fun _ => m := by
  unfold gv
  cases h : ρ[j]? with
  | none => rfl
  | some x => cases x <;> rfl
theorem eOut_1 {i j : Nat} {ρ : Env} : eOut [j] i ρ = (gv ρ j).bind fun _ => eVar i ρ := by
  unfold eOut
  simp only [List.all_cons, List.all_nil, Bool.and_true]
  exact gv_get
theorem eOut_2 {i j k : Nat} {ρ : Env} : eOut [j, k] i ρ = (gv ρ j).bind fun _ => (gv ρ k).bind fun _ => eVar i ρ := by
  unfold eOut
  simp only [List.all_cons, List.all_nil, Bool.and_true, Bool.and_eq_true]
  unfold gv
  cases h : ρ[j]? with
  | none => rfl
  | some x =>
    cases x with
    | none => rfl
    | some y =>
      cases h2 : ρ[k]? with
      | none => rfl
      | some z => cases z <;> rfl
theorem Sim.nil {α : Type} {m : Res α} {r : Res Fl} {Q : α → Fl → Prop} (h : Sim m (r.bind (fk sNil)) Q) : Sim m r Q := by rw [bind_fk_nil] at h; exact h
theorem sim_exnR {α β : Type} {c : String} {fs : List String} {ds : List D} {Q : α → β → Prop} : Sim (exnR c fs ds) (exnR c fs ds) Q := by unfold exnR; split <;> trivial
def aftE {σ β : Type} (r : Stp σ Empty) (k : σ → Res β) : Res β := match r with
  | .next s => k s
  | .brk s => k s
  | .ret v => nomatch v
def RRE : Empty → D → Env → Prop := fun v _ _ => nomatch v
theorem sim_aftE {σ β : Type} {P : σ → Env → Prop} {Q : β → Fl → Prop} {k : Es} {g : σ → Res β} {r : Stp σ Empty} {fl : Fl} (h : QF RRE P r fl) (hk : ∀ s ρ, P s ρ → Sim (g s) (k ρ) Q) : Sim (aftE r g) (fk k fl) Q := by
  cases r with
  | next s => obtain ⟨ρ, rfl, h⟩ := h; exact hk s ρ h
  | brk s => exact h.elim
  | ret v => exact nomatch v
section
variable {σ R : Type} {RR : R → D → Env → Prop} {P : σ → Env → Prop} {s : σ} {v : R} {d : D} {ρ : Env}
theorem fR (h : RR v d ρ) : Sim (.ok v) (.ok (.ret d ρ)) (QR RR) := ⟨_, rfl, .inl ⟨d, ρ, rfl, h⟩⟩
theorem fRn (h : RR v .non ρ) : Sim (.ok v) (.ok (.next ρ)) (QR RR) := ⟨_, rfl, .inr ⟨ρ, rfl, h⟩⟩
theorem fSr (h : RR v d ρ) : Sim (.ok (.ret v)) (.ok (.ret d ρ)) (QS RR P) := ⟨_, rfl, d, ρ, rfl, h⟩
theorem fSn (h : P s ρ) : Sim (.ok (.next s)) (.ok (.next ρ)) (QS RR P) := ⟨_, rfl, ρ, .inl rfl, h⟩
theorem fSc (h : P s ρ) : Sim (.ok (.next s)) (.ok (.cont ρ)) (QS RR P) := ⟨_, rfl, ρ, .inr rfl, h⟩
theorem fSb (h : P s ρ) : Sim (.ok (.brk s)) (.ok (.brk ρ)) (QS RR P) := ⟨_, rfl, ρ, rfl, h⟩
theorem fNn (h : P s ρ) : Sim (.ok s) (.ok (.next ρ)) (QN P) := ⟨_, rfl, ρ, .inl rfl, h⟩
theorem fNc (h : P s ρ) : Sim (.ok s) (.ok (.cont ρ)) (QN P) := ⟨_, rfl, ρ, .inr rfl, h⟩
theorem fFn (h : P s ρ) : Sim (.ok (.next s)) (.ok (.next ρ)) (QF RR P) := ⟨_, rfl, ρ, rfl, h⟩
theorem fFr (h : RR v d ρ) : Sim (.ok (.ret v)) (.ok (.ret d ρ)) (QF RR P) := ⟨_, rfl, d, ρ, rfl, h⟩
end
end VL

set_option Elab.async false
set_option linter.all false
set_option maxRecDepth 100000
/-! VN: typed data in D; how mirrors are reckoned out; what holds behind them (Post). -/
namespace VL
open PySem PySem.Spec PyProof.Rows L2

class Emb (α : Type) where
  emb : α → D
open Emb (emb)
abbrev Txt := List Nat
structure Tri (α β γ : Type) where
  a : α
  b : β
  c : γ
  deriving DecidableEq
structure Quad (α β γ δ : Type) where
  a : α
  b : β
  c : γ
  d : δ
  deriving DecidableEq
/-- a tuple of any length -/
structure Tup (α : Type) where
  l : List α
  deriving DecidableEq
instance : Emb Int := ⟨.int⟩
instance : Emb Bool := ⟨.bl⟩
instance : Emb Unit := ⟨fun _ => .non⟩
instance : Emb D := ⟨fun d => d⟩
instance : Emb Txt := ⟨.str⟩
section
variable {α β γ δ : Type} [Emb α] [Emb β] [Emb γ] [Emb δ]
instance : Emb (Option α) := ⟨fun o => match o with | none => .non | some a => emb a⟩
instance : Emb (List α) := ⟨fun l => .lst (l.map emb)⟩
instance : Emb (Tup α) := ⟨fun l => .tup (l.l.map emb)⟩
instance : Emb (α × β) := ⟨fun p => .tup [emb p.1, emb p.2]⟩
instance : Emb (Tri α β γ) := ⟨fun p => .tup [emb p.a, emb p.b, emb p.c]⟩
instance : Emb (Quad α β γ δ) := ⟨fun p => .tup [emb p.a, emb p.b, emb p.c, emb p.d]⟩
@[simp] theorem emb_int (i : Int) : emb i = .int i := rfl
@[simp] theorem emb_bl (i : Bool) : emb i = .bl i := rfl
@[simp] theorem emb_unit (i : Unit) : emb i = .non := rfl
@[simp] theorem emb_D (d : D) : emb d = d := rfl
@[simp] theorem emb_txt (i : Txt) : (emb i : D) = .str i := rfl
@[simp] theorem emb_none : emb (none : Option α) = .non := rfl
@[simp] theorem emb_some (a : α) : emb (some a) = emb a := rfl
@[simp] theorem emb_lst (l : List α) : emb l = .lst (l.map emb) := rfl
@[simp] theorem emb_Tup (l : Tup α) : emb l = .tup (l.l.map emb) := rfl
@[simp] theorem emb_pair (p : α × β) : emb p = .tup [emb p.1, emb p.2] := rfl
@[simp] theorem emb_tri (p : Tri α β γ) : emb p = .tup [emb p.a, emb p.b, emb p.c] := rfl
@[simp] theorem emb_quad (p : Quad α β γ δ) : emb p = .tup [emb p.a, emb p.b, emb p.c, emb p.d] := rfl
/-! ### lists of embedded data -/
theorem atI_map {l : List α} {f : α → β} {i : Int} : atI (l.map f) i = (atI l i).map f := by
  unfold atI
  rw [List.length_map]
  cases ixN l.length i with
  | none => rfl
  | some j => simp
theorem ixN_nat {n k : Nat} (h : k < n) : ixN n (k : Int) = some k := by
  unfold ixN; rw [if_pos (by omega), if_pos (by omega)]; simp
theorem ixN_pos {n : Nat} {i : Int} (h0 : 0 ≤ i) (h : i < n) : ixN n i = some i.toNat := by
  unfold ixN; rw [if_pos h0, if_pos (by omega)]
theorem ixN_neg {n : Nat} {i : Int} (h0 : i < 0) (h : 0 ≤ i + n) : ixN n i = some (i + n).toNat := by
  unfold ixN; rw [if_neg (by omega), if_pos (by omega)]
theorem atI_nat {l : List α} {k : Nat} (h : k < l.length) : atI l (k : Int) = some l[k] := by
  unfold atI; rw [ixN_nat h]; simp [h]
theorem atI_pos {l : List α} {i : Int} (h0 : 0 ≤ i) (h : i.toNat < l.length) : atI l i = some l[i.toNat] := by
  unfold atI; rw [ixN_pos h0 (by omega)]; simp [h]
theorem atI_last {l : List α} {x : α} : atI (l ++ [x]) (-1) = some x := by
  unfold atI; rw [ixN_neg (by omega) (by simp; omega)]
  simp only [Option.bind_some, List.length_append, List.length_cons, List.length_nil]
  rw [show (-1 + ((l.length + (0 + 1) : Nat) : Int)).toNat = l.length by omega]; simp
theorem atI_getLast {l : List α} (h : l ≠ []) : atI l (-1) = some (l.getLast h) := by
  conv => lhs; rw [← List.dropLast_concat_getLast h]
  exact atI_last
@[simp] theorem atI_0 {x : α} {l : List α} : atI (x :: l) 0 = some x := at_nat (n := 0) rfl
@[simp] theorem atI_1 {x y : α} {l : List α} : atI (x :: y :: l) 1 = some y := at_nat (n := 1) rfl
@[simp] theorem atI_2 {x y z : α} {l : List α} : atI (x :: y :: z :: l) 2 = some z := at_nat (n := 2) rfl
@[simp] theorem atI_3 {x y z w : α} {l : List α} : atI (x :: y :: z :: w :: l) 3 = some w := at_nat (n := 3) rfl
@[simp] theorem atI_4 {x y z w v : α} {l : List α} : atI (x :: y :: z :: w :: v :: l) 4 = some v := at_nat (n := 4) rfl
@[simp] theorem atI_5 {x y z w v u : α} {l : List α} : atI (x :: y :: z :: w :: v :: u :: l) 5 = some u := at_nat (n := 5) rfl
/-- whatever is taken out of a list has what all of it has -/
theorem atI_all {l : List α} {i : Int} (h0 : 0 ≤ i) (h : i < l.length) : ∃ x, atI l i = some x ∧ x ∈ l := ⟨_, atI_pos h0 (by omega), List.getElem_mem _⟩
@[simp] theorem embs_ints (l : List Int) : intsOf (l.map emb) = some l := by
  induction l with
  | nil => rfl
  | cons x r ih => simp only [List.map_cons, emb_int, intsOf, ih]; rfl
@[simp] theorem intsOf_f {γ : Type} {l : List γ} {f : γ → Int} : intsOf (l.map fun x => D.int (f x)) = some (l.map f) := by
  have := embs_ints (l.map f)
  rwa [List.map_map] at this
@[simp] theorem intsOf_c {γ : Type} {l : List γ} {f : γ → Int} : intsOf (l.map (emb ∘ f)) = some (l.map f) := intsOf_f
@[simp] theorem embs_bls (l : List Bool) : blsOf (l.map emb) = some l := by
  induction l with
  | nil => rfl
  | cons x r ih => simp only [List.map_cons, emb_bl, blsOf, ih]; rfl
@[simp] theorem blsOf_f {γ : Type} {l : List γ} {f : γ → Bool} : blsOf (l.map fun x => D.bl (f x)) = some (l.map f) := by
  have := embs_bls (l.map f)
  rwa [List.map_map] at this
@[simp] theorem blsOf_c {γ : Type} {l : List γ} {f : γ → Bool} : blsOf (l.map (emb ∘ f)) = some (l.map f) := blsOf_f
end
/-! ### reckoning -/
section
variable {α β γ : Type}
@[simp] theorem lenG_ok {l : List D} (h : l.length ≤ 16777216) : lenG l = .ok () := if_pos h
@[simp] theorem nc_int (i : Int) : nc (.int i) = .ok () := rfl
@[simp] theorem nc_bl (i : Bool) : nc (.bl i) = .ok () := rfl
@[simp] theorem nc_str (i : List Nat) : nc (.str i) = .ok () := rfl
@[simp] theorem nc_tup (i : List D) : nc (.tup i) = .ok () := rfl
@[simp] theorem nc_non : nc .non = .ok () := rfl
@[simp] theorem ite_tB {c : Prop} [Decidable c] {b : Bool} : (if c then (.ok true : Res Bool) else .ok b) = .ok (decide c || b) := by by_cases c <;> simp [*]
@[simp] theorem ite_Bf {c : Prop} [Decidable c] {b : Bool} : (if c then (.ok b : Res Bool) else .ok false) = .ok (decide c && b) := by by_cases c <;> simp [*]
@[simp] theorem ite_fB {c : Prop} [Decidable c] {b : Bool} : (if c then (.ok false : Res Bool) else .ok b) = .ok (!decide c && b) := by by_cases c <;> simp [*]
@[simp] theorem ite_tD {c : Prop} [Decidable c] {b : Bool} : (if c then (.ok (.bl true) : Res D) else .ok (.bl b)) = .ok (.bl (decide c || b)) := by by_cases c <;> simp [*]
@[simp] theorem ite_Df {c : Prop} [Decidable c] {b : Bool} : (if c then (.ok (.bl b) : Res D) else .ok (.bl false)) = .ok (.bl (decide c && b)) := by by_cases c <;> simp [*]
@[simp] theorem ite_fD {c : Prop} [Decidable c] {b : Bool} : (if c then (.ok (.bl false) : Res D) else .ok (.bl b)) = .ok (.bl (!decide c && b)) := by by_cases c <;> simp [*]
theorem ite_ok {c : Prop} [Decidable c] {a b : α} : (if c then (.ok a : Res α) else .ok b) = .ok (if c then a else b) := by split <;> rfl
@[simp] theorem aftF_next {σ R : Type} {s : σ} {k : σ → Res R} : aftF (.next s) k = k s := rfl
@[simp] theorem aftF_ret {σ R : Type} {s : R} {k : σ → Res R} : aftF (.ret s) k = .ok s := rfl
@[simp] theorem aftL_next {σ τ R : Type} {s : σ} {k : σ → Res (Stp τ R)} : aftL (.next s) k = k s := rfl
@[simp] theorem aftL_ret {σ τ R : Type} {s : R} {k : σ → Res (Stp τ R)} : aftL (.ret s) k = .ok (.ret s) := rfl
@[simp] theorem aftE_next {σ β : Type} {s : σ} {k : σ → Res β} : aftE (.next s) k = k s := rfl
@[simp] theorem tryM_ok {σ R : Type} {cs : List String} {a : Stp σ R} {h : D → Res (Stp σ R)} : tryM cs (.ok a) h = .ok a := rfl
@[simp] theorem tryM_exn {σ R : Type} {cs : List String} {c : String} {fs : List (String × D)} {h : D → Res (Stp σ R)} : tryM cs (.exn ⟨c, fs⟩) h = if cs.contains c = true then match h (.exc c fs) with
      | .ok (.next s) => .ok (.next s)
      | .ok (.ret v) => .ok (.ret v)
      | _ => .bad
    else .bad := rfl
@[simp] theorem exnR_1 {c f : String} {d : D} : (exnR c [f] [d] : Res α) = .exn ⟨c, [(f, d)]⟩ := rfl
@[simp] theorem exnR_2 {c f g : String} {d e : D} : (exnR c [f, g] [d, e] : Res α) = .exn ⟨c, [(g, e), (f, d)]⟩ := rfl
@[simp] theorem exF_exc {cs : List String} {f c : String} {fs : List (String × D)} : exF cs f (.exc c fs) = if cs.contains c = true then opt (lookF f fs) else .bad := rfl
@[simp] theorem exI_exc {tb : List (String × Bool)} {c : String} {fs : List (String × D)} : exI tb (.exc c fs) = (opt (lookB c tb)).bind fun b => .ok (.bl b) := rfl
@[simp] theorem lookB_1 {c : String} {b : Bool} : lookB c [(c, b)] = some b := by simp [lookB]
@[simp] theorem lookF_1 {f : String} {d : D} {r : List (String × D)} : lookF f ((f, d) :: r) = some d := by simp [lookF]
@[simp] theorem setR_ok {l : List D} {i : Int} {d : D} : setR (.lst l) (.int i) d = (opt (ixN l.length i)).bind fun j => .ok (.lst (l.set j d)) := by
  unfold setR; dsimp only; cases ixN l.length i <;> rfl
@[simp] theorem getI_ok {l : List D} {i : Int} : getI (.lst l) (.int i) = (opt (atI l i)).bind toI := by
  unfold getI; dsimp only; cases atI l i with
  | none => rfl
  | some d => cases d <;> rfl
@[simp] theorem tyD_int (i : Int) : tyD (.int i) = some "int" := rfl
@[simp] theorem tyD_bl (i : Bool) : tyD (.bl i) = some "bool" := rfl
@[simp] theorem tyD_str (i : List Nat) : tyD (.str i) = some "str" := rfl
@[simp] theorem tyD_tup (i : List D) : tyD (.tup i) = some "tuple" := rfl
@[simp] theorem tyD_lst (i : List D) : tyD (.lst i) = some "list" := rfl
@[simp] theorem tyD_non : tyD .non = some "NoneType" := rfl
@[simp] theorem fSum_lst {l : List D} : fSum [.lst l] = (intsOf l).map fun ns => .int ns.sum := rfl
@[simp] theorem fSorted_lst {l : List D} : fSorted [.lst l] = (intsOf l).map fun ns => .lst ((sortI ns).map emb) := rfl
@[simp] theorem fAny_lst {l : List D} : fAny [.lst l] = (blsOf l).map fun ns => .bl (ns.any id) := rfl
@[simp] theorem fAll_lst {l : List D} : fAll [.lst l] = (blsOf l).map fun ns => .bl (ns.all id) := rfl
@[simp] theorem opt_map {o : Option α} {f : α → β} : opt (o.map f) = (opt o).bind fun a => .ok (f a) := by cases o <;> rfl
theorem dMul_in {i j : Int} (h : i.natAbs < 18446744073709551616) : dMul (.int i) (.int j) = some (.int (i * j)) := by
  rw [dMul_int, if_pos (by unfold cMulB; exact decide_eq_true (.inl h))]
theorem dMul_in' {i j : Int} (h : j.natAbs < 18446744073709551616) : dMul (.int i) (.int j) = some (.int (i * j)) := by
  rw [dMul_int, if_pos (by unfold cMulB; exact decide_eq_true (.inr h))]
theorem dMul_rep {a : List D} {k : Int} (h : k ≤ 16777216) (h2 : -16777216 ≤ k) (h3 : a.length * k.toNat ≤ 16777216) : dMul (.lst a) (.int k) = some (.lst (List.replicate k.toNat a).flatten) := if_pos ⟨h, h2, h3⟩
@[simp] theorem enumD_nil (k : Nat) : enumD k [] = [] := rfl
@[simp] theorem enumD_cons (k : Nat) (d : D) (ds : List D) : enumD k (d :: ds) = .tup [.int (k : Nat), d] :: enumD (k + 1) ds := rfl
@[simp] theorem forN_nil {σ : Type} {s : σ} {f : D → σ → Res σ} : forN [] s f = .ok s := rfl
@[simp] theorem forN_cons {σ : Type} {d : D} {ds : List D} {s : σ} {f : D → σ → Res σ} : forN (d :: ds) s f = (f d s).bind fun s' => forN ds s' f := rfl
@[simp] theorem forB_nil {σ R : Type} {s : σ} {f : D → σ → Res (Stp σ R)} : forB [] s f = .ok (.next s) := rfl
@[simp] theorem forB_cons {σ R : Type} {d : D} {ds : List D} {s : σ} {f : D → σ → Res (Stp σ R)} : forB (d :: ds) s f = (f d s).bind fun r => match r with
    | .next s' => forB ds s' f
    | .brk s' => .ok (.next s')
    | .ret v => .ok (.ret v) := rfl
@[simp] theorem rng_1 {j : Int} (h : j < 4611686018427387904) (h2 : -4611686018427387904 < j) : rngOf [.int j] = some ((List.range j.toNat).map fun k : Nat => D.int (k : Nat)) := rng1 h h2
theorem rng_2 {i j : Int} (h : j < 4611686018427387904) (h2 : -4611686018427387904 < j) (h3 : i < 4611686018427387904) (h4 : -4611686018427387904 < i) : rngOf [.int i, .int j] = some ((List.range (j - i).toNat).map fun k : Nat => D.int (i + (k : Nat))) := by
  unfold rngOf; dsimp only; rw [if_pos (by rw [rB_iff.mpr ⟨h, h2⟩, rB_iff.mpr ⟨h3, h4⟩]; rfl)]
end
/-- n whole numbers from i on -/
def ups : Int → Nat → List Int
  | _, 0 => []
  | i, n + 1 => i :: ups (i + 1) n
theorem ups_map (i : Int) (n : Nat) : (List.range n).map (fun k : Nat => D.int (i + (k : Nat))) = (ups i n).map emb := by
  induction n generalizing i with
  | zero => rfl
  | succ n ih =>
    rw [List.range_succ_eq_map, List.map_cons, List.map_map]
    simp only [ups, List.map_cons, emb_int]
    rw [← ih (i + 1)]
    congr 1
    · simp
    · apply List.map_congr_left
      intro k _
      simp only [Function.comp]
      congr 1; omega
theorem ups_map0 (n : Nat) : (List.range n).map (fun k : Nat => D.int (k : Nat)) = (ups 0 n).map emb := by
  rw [← ups_map]; apply List.map_congr_left; intro k _; simp
@[simp] theorem ups_len (i : Int) (n : Nat) : (ups i n).length = n := by
  induction n generalizing i with
  | zero => rfl
  | succ n ih => simp [ups, ih]
theorem mem_ups {i x : Int} {n : Nat} : x ∈ ups i n ↔ i ≤ x ∧ x < i + n := by
  induction n generalizing i with
  | zero => simp only [ups, List.not_mem_nil, false_iff]; omega
  | succ n ih => simp only [ups, List.mem_cons, ih]; omega
theorem rngI_1 {j : Int} (h : j < 4611686018427387904) (h2 : -4611686018427387904 < j) : rngOf [.int j] = some ((ups 0 j.toNat).map emb) := by rw [rng1 h h2, ups_map0]
theorem rngI_2 {i j : Int} (h : j < 4611686018427387904) (h2 : -4611686018427387904 < j) (h3 : i < 4611686018427387904) (h4 : -4611686018427387904 < i) : rngOf [.int i, .int j] = some ((ups i (j - i).toNat).map emb) := by rw [rng_2 h h2 h3 h4, ups_map]
theorem rngI_3 {i j : Int} (h : j < 4611686018427387904) (h2 : -4611686018427387904 < j) (h3 : i < 4611686018427387904) (h4 : -4611686018427387904 < i) : rngOf [.int i, .int j, .int (-1)] = some ((List.range (i - j).toNat).map fun k : Nat => D.int (i - (k : Nat))) := by
  unfold rngOf; dsimp only
  rw [if_pos (by rw [rB_iff.mpr ⟨h, h2⟩, rB_iff.mpr ⟨h3, h4⟩]; rfl)]
  congr 1; apply List.map_congr_left; intro k _; congr 1; omega
/-! ### walks over lists -/
section
variable {α σ τ R : Type} {l : List α} {g : α → D}
theorem mMap_map {f : D → Res D} {h : α → D} (H : ∀ x ∈ l, f (g x) = .ok (h x)) : mMap (l.map g) f = .ok (l.map h) := by
  induction l with
  | nil => rfl
  | cons x r ih =>
    show (noexn (f (g x))).bind _ = _
    rw [H x List.mem_cons_self]
    simp only [noexn_ok, Res.bind_ok]
    rw [ih fun y hy => H y (List.mem_cons_of_mem _ hy)]
    rfl
theorem mFil_map {f : D → Res (Option D)} {h : α → D} {c : α → Bool} (H : ∀ x ∈ l, f (g x) = .ok (if c x = true then some (h x) else none)) : mFil (l.map g) f = .ok ((l.filter c).map h) := by
  induction l with
  | nil => rfl
  | cons x r ih =>
    show (noexn (f (g x))).bind _ = _
    rw [H x List.mem_cons_self]
    simp only [noexn_ok, Res.bind_ok]
    rw [ih fun y hy => H y (List.mem_cons_of_mem _ hy)]
    simp only [Res.bind_ok, List.filter_cons]
    split <;> rfl
theorem mFil_all {f : D → Res (Option D)} {h : α → D} (H : ∀ x ∈ l, f (g x) = .ok (some (h x))) : mFil (l.map g) f = .ok (l.map h) := by
  have := mFil_map (l := l) (g := g) (f := f) (h := h) (c := fun _ => true) (fun x hx => by rw [H x hx]; rfl)
  rwa [List.filter_eq_self.mpr (by simp)] at this
theorem mMap_len {f : D → Res D} : ∀ {l r : List D}, mMap l f = .ok r → r.length = l.length
  | [], r, h => by cases h; rfl
  | d :: l, r, h => by
    simp only [mMap] at h
    cases hd : noexn (f d) with
    | bad => rw [hd] at h; cases h
    | exn x => rw [hd] at h; cases h
    | ok y =>
      rw [hd] at h
      simp only [Res.bind_ok] at h
      cases hm : mMap l f with
      | bad => rw [hm] at h; cases h
      | exn x => rw [hm] at h; cases h
      | ok ys => rw [hm] at h; cases h; simp [mMap_len hm]
theorem forN_map {f : D → σ → Res σ} {e : τ → σ} {k : τ → α → τ} : ∀ {l : List α} {s : τ}, (∀ x ∈ l, ∀ s, f (g x) (e s) = .ok (e (k s x))) → forN (l.map g) (e s) f = .ok (e (l.foldl k s))
  | [], _, _ => rfl
  | x :: r, s, H => by
    show (f (g x) (e s)).bind _ = _
    rw [H x List.mem_cons_self]
    exact forN_map fun y hy => H y (List.mem_cons_of_mem _ hy)
theorem forB_next {f : D → σ → Res (Stp σ R)} {s : σ} (H : ∀ x ∈ l, f (g x) s = .ok (.next s)) : forB (l.map g) s f = .ok (.next s) := by
  induction l with
  | nil => rfl
  | cons x r ih =>
    show (f (g x) s).bind _ = _
    rw [H x List.mem_cons_self]
    exact ih fun y hy => H y (List.mem_cons_of_mem _ hy)
theorem forB_map {f : D → σ → Res (Stp σ R)} {e : τ → σ} {k : τ → α → τ} : ∀ {l : List α} {s : τ}, (∀ x ∈ l, ∀ s, f (g x) (e s) = .ok (.next (e (k s x)))) → forB (l.map g) (e s) f = .ok (.next (e (l.foldl k s)))
  | [], _, _ => rfl
  | x :: r, s, H => by
    show (f (g x) (e s)).bind _ = _
    rw [H x List.mem_cons_self]
    exact forB_map fun y hy => H y (List.mem_cons_of_mem _ hy)
/-- the first item at which the walk ends -/
theorem forB_find {f : D → σ → Res (Stp σ R)} {s : σ} {c : α → Bool} {v : α → R} (H : ∀ x ∈ l, f (g x) s = .ok (if c x = true then .ret (v x) else .next s)) : forB (l.map g) s f = .ok (match l.find? c with | some x => .ret (v x) | none => .next s) := by
  induction l with
  | nil => rfl
  | cons x r ih =>
    show (f (g x) s).bind _ = _
    rw [H x List.mem_cons_self, List.find?_cons]
    cases hc : c x with
    | true => rfl
    | false => exact ih fun y hy => H y (List.mem_cons_of_mem _ hy)
end
/-! ### Post -/
def Post {α : Type} (m : Res α) (Q : α → Prop) : Prop := ∃ a, m = .ok a ∧ Q a
section
variable {α β σ R : Type} {m : Res α} {P : α → Prop} {Q : β → Prop}
theorem Post.ok {a : α} (h : P a) : Post (.ok a) P := ⟨a, rfl, h⟩
theorem Post.bind {k : α → Res β} (h : Post m P) (hk : ∀ a, P a → Post (k a) Q) : Post (m.bind k) Q := by
  obtain ⟨a, rfl, h⟩ := h
  exact hk a h
theorem Post.eq {a : α} {k : α → Res β} (h : m = .ok a) (hk : Post (k a) Q) : Post (m.bind k) Q := by subst h; exact hk
theorem Post.noexn (h : Post m P) : Post (noexn m) P := by obtain ⟨a, rfl, h⟩ := h; exact ⟨a, rfl, h⟩
theorem Post.imp {P' : α → Prop} (h : Post m P) (i : ∀ a, P a → P' a) : Post m P' := by obtain ⟨a, e, h⟩ := h; exact ⟨a, e, i a h⟩
theorem Post.draw {f : D} {n : Int} {k : D × D → Res β} (hf : Feed f) (h0 : 0 < n) (h1 : n < 1073741824) (hk : ∀ (r : Int) (f' : D), Feed f' → 0 ≤ r → r < n → Post (k (.int r, f')) Q) : Post ((ckB (cellD f)).bind fun _ => (mDraw f (.int n)).bind k) Q := by
  obtain ⟨r, f', e, a, b, h⟩ := mDraw_ok hf h0 h1
  rw [hf.cell]
  simp only [ckB_true, Res.bind_ok, e]
  exact hk r f' h a b
theorem Post.ite {c : Prop} [Decidable c] {a b : Res α} (h1 : c → Post a P) (h2 : ¬ c → Post b P) : Post (if c then a else b) P := by
  split
  · exact h1 ‹_›
  · exact h2 ‹_›
theorem post_forN {f : D → σ → Res σ} {I : List D → σ → Prop} (step : ∀ d ds s, I (d :: ds) s → Post (f d s) (I ds)) : ∀ {l : List D} {s : σ}, I l s → Post (forN l s f) (I [])
  | [], s, h => ⟨s, rfl, h⟩
  | d :: ds, s, h => Post.bind (step d ds s h) fun s' h' => post_forN step h'
theorem post_forB {f : D → σ → Res (Stp σ R)} {I : List D → σ → Prop} {B : Stp σ R → Prop} (step : ∀ d ds s, I (d :: ds) s → Post (f d s) (fun r => match r with | .next s' => I ds s' | .brk s' => B (.next s') | .ret v => B (.ret v))) (hB : ∀ s, I [] s → B (.next s)) : ∀ {l : List D} {s : σ}, I l s → Post (forB l s f) B
  | [], s, h => ⟨_, rfl, hB s h⟩
  | d :: ds, s, h => Post.bind (step d ds s h) fun r h' => by
    cases r with
    | next s' => exact post_forB step hB h'
    | brk s' => exact ⟨_, rfl, h'⟩
    | ret v => exact ⟨_, rfl, h'⟩
/-- a comprehension that keeps some members -/
theorem post_filT {α : Type} [Emb α] {f : D → σ → Res (Option D × σ)} {I : σ → Prop} : ∀ {xs : List α} {s : σ}, (∀ x ∈ xs, ∀ s, I s → Post (f (emb x) s) (fun r => (r.1 = none ∨ r.1 = some (emb x)) ∧ I r.2)) → I s → Post (mFilS (xs.map emb) s f) (fun r => ∃ ys : List α, r.1 = ys.map emb ∧ ys.Sublist xs ∧ I r.2)
  | [], s, _, h => ⟨_, rfl, [], rfl, List.Sublist.slnil, h⟩
  | x :: xs, s, H, h => Post.bind (Post.noexn (H x List.mem_cons_self s h)) fun y hy => Post.bind (post_filT (fun x' hx => H x' (List.mem_cons_of_mem _ hx)) hy.2) fun ys hys => by
    obtain ⟨o, s'⟩ := y
    obtain ⟨ho, _⟩ := hy
    obtain ⟨zs, e, sub, hI⟩ := hys
    rcases ho with ho | ho
    · have ho : o = none := ho
      subst ho
      exact ⟨_, rfl, zs, by simpa [consO] using e, sub.cons x, hI⟩
    · have ho : o = some (emb x) := ho
      subst ho
      exact ⟨_, rfl, x :: zs, by simp [consO, e], sub.cons₂ x, hI⟩
inductive All2 (T : D → D → Prop) : List D → List D → Prop where
  | nil : All2 T [] []
  | cons {x y : D} {l m : List D} : T x y → All2 T l m → All2 T (x :: l) (y :: m)
theorem post_mapS {f : D → σ → Res (D × σ)} {I : σ → Prop} {T : D → D → Prop} : ∀ {l : List D} {s : σ}, (∀ d ∈ l, ∀ s, I s → Post (f d s) (fun r => T d r.1 ∧ I r.2)) → I s → Post (mMapS l s f) (fun r => All2 T l r.1 ∧ I r.2)
  | [], s, _, h => ⟨_, rfl, .nil, h⟩
  | d :: ds, s, H, h => Post.bind (Post.noexn (H d List.mem_cons_self s h)) fun y hy => Post.bind (post_mapS (fun d' hd => H d' (List.mem_cons_of_mem _ hd)) hy.2) fun ys hys => ⟨_, rfl, .cons hy.1 hys.1, hys.2⟩
theorem post_filS {f : D → σ → Res (Option D × σ)} {I : σ → Prop} {T : D → Prop} : ∀ {l : List D} {s : σ}, (∀ d ∈ l, ∀ s, I s → Post (f d s) (fun r => (∀ y, r.1 = some y → T y) ∧ I r.2)) → I s → Post (mFilS l s f) (fun r => (∀ y ∈ r.1, T y) ∧ r.1.length ≤ l.length ∧ I r.2)
  | [], s, _, h => ⟨_, rfl, by simp, by simp, h⟩
  | d :: ds, s, H, h => Post.bind (Post.noexn (H d List.mem_cons_self s h)) fun y hy => Post.bind (post_filS (fun d' hd => H d' (List.mem_cons_of_mem _ hd)) hy.2) fun ys hys => by
    obtain ⟨o, s'⟩ := y
    cases o with
    | none => exact ⟨_, rfl, hys.1, by simpa [consO] using Nat.le_succ_of_le hys.2.1, hys.2.2⟩
    | some z =>
      refine ⟨_, rfl, ?_, by simpa [consO] using hys.2.1, hys.2.2⟩
      intro w hw
      rcases List.mem_cons.mp hw with rfl | hw
      · exact hy.1 _ rfl
      · exact hys.1 w hw
theorem all2_typed {α : Type} [Emb α] {T : α → Prop} {l ys : List D} (h : All2 (fun _ y => ∃ a : α, y = emb a ∧ T a) l ys) : ∃ as : List α, ys = as.map emb ∧ as.length = l.length ∧ ∀ a ∈ as, T a := by
  induction h with
  | nil => exact ⟨[], rfl, rfl, by simp⟩
  | cons h1 _ ih =>
    obtain ⟨a, rfl, ta⟩ := h1
    obtain ⟨as, rfl, e, t⟩ := ih
    exact ⟨a :: as, rfl, by simp [e], fun z hz => (List.mem_cons.mp hz).elim (fun q => q ▸ ta) (t z)⟩
/-- a list drawn member by member: typed -/
theorem post_mapT {α : Type} [Emb α] {f : D → σ → Res (D × σ)} {I : σ → Prop} {T : α → Prop} {l : List D} {s : σ} (H : ∀ d ∈ l, ∀ s, I s → Post (f d s) (fun r => (∃ a, r.1 = emb a ∧ T a) ∧ I r.2)) (h : I s) : Post (mMapS l s f) (fun r => ∃ as : List α, r.1 = as.map emb ∧ as.length = l.length ∧ (∀ a ∈ as, T a) ∧ I r.2) := by
  refine (post_mapS (T := fun _ y => ∃ a : α, y = emb a ∧ T a) H h).imp fun r hr => ?_
  obtain ⟨as, h1, h2, h3⟩ := all2_typed hr.1
  exact ⟨as, h1, h2, h3, hr.2⟩
end
theorem cut_map {α β : Type} {f : α → β} {l : List α} {lo hi : Option Int} : cutA (l.map f) lo hi = (cutA l lo hi).map f := by
  unfold cutA; rw [List.length_map, List.map_take, List.map_drop]
@[simp] theorem dSlice_emb {α : Type} [Emb α] {l : List α} {lo hi : Option Int} : dSlice (.lst (l.map emb)) lo hi = some (.lst ((cutA l lo hi).map emb)) := by rw [dSlice_lst, cut_map]
theorem ups_snoc (i : Int) (n : Nat) : ups i (n + 1) = ups i n ++ [i + (n : Int)] := by
  induction n generalizing i with
  | zero => simp [ups]
  | succ n ih =>
    rw [ups, ih (i + 1)]
    simp only [ups, List.cons_append, Int.natCast_add]
    congr 3
    omega
/-! ### == of data -/
class EmbEq (α : Type) extends Emb α where
  ok : α → Prop
  dep : Nat
  good : ∀ a n, ok a → dep ≤ n → goodD n (emb a) = true
  eq : ∀ a b, ok a → ok b → (eqD (emb a) (emb b) = true ↔ a = b)
section
variable {α β γ δ : Type}
instance : EmbEq Int := { ok := fun _ => True, dep := 0, good := fun _ _ _ _ => by simp [emb, goodD], eq := fun a b _ _ => by simp [emb, eqD] }
instance : EmbEq Bool := { ok := fun _ => True, dep := 0, good := fun _ _ _ _ => by simp [emb, goodD], eq := fun a b _ _ => by simp [emb, eqD] }
instance : EmbEq Txt := { ok := fun l => ∀ c ∈ l, c < 1114112, dep := 0, good := fun a _ h _ => by simpa [emb, goodD] using h, eq := fun a b _ _ => by simp [emb, eqD] }
theorem eqDs_iff [EmbEq α] : ∀ {a b : List α}, (∀ x ∈ a, EmbEq.ok x) → (∀ x ∈ b, EmbEq.ok x) → (eqDs (a.map emb) (b.map emb) = true ↔ a = b)
  | [], [], _, _ => by simp [eqDs]
  | [], _ :: _, _, _ => by simp [eqDs]
  | _ :: _, [], _, _ => by simp [eqDs]
  | x :: a, y :: b, ha, hb => by
    have ih := eqDs_iff (a := a) (b := b) (fun z hz => ha z (List.mem_cons_of_mem _ hz)) (fun z hz => hb z (List.mem_cons_of_mem _ hz))
    have e := EmbEq.eq x y (ha x List.mem_cons_self) (hb y List.mem_cons_self)
    simp only [List.map_cons, eqDs, Bool.and_eq_true, ih, List.cons.injEq]
    rw [e]
theorem goodDs_of [EmbEq α] {n : Nat} (hn : EmbEq.dep α ≤ n) : ∀ {a : List α}, (∀ x ∈ a, EmbEq.ok x) → goodDs n (a.map emb) = true
  | [], _ => by simp [goodDs]
  | x :: a, ha => by
    simp only [List.map_cons, goodDs, Bool.and_eq_true]
    exact ⟨EmbEq.good x n (ha x List.mem_cons_self) hn, goodDs_of hn fun z hz => ha z (List.mem_cons_of_mem _ hz)⟩
instance [EmbEq α] : EmbEq (List α) :=
  { ok := fun l => ∀ x ∈ l, EmbEq.ok x, dep := EmbEq.dep α + 1
    good := fun a n h hn => by
      cases n with
      | zero => omega
      | succ n => simp only [emb, goodD]; exact goodDs_of (by omega) h
    eq := fun a b ha hb => by simp only [emb, eqD]; exact eqDs_iff ha hb }
instance [EmbEq α] : EmbEq (Tup α) :=
  { ok := fun l => ∀ x ∈ l.l, EmbEq.ok x, dep := EmbEq.dep α + 1
    good := fun a n h hn => by
      cases n with
      | zero => omega
      | succ n => simp only [emb, goodD]; exact goodDs_of (by omega) h
    eq := fun a b ha hb => by
      simp only [emb, eqD]; rw [eqDs_iff ha hb]
      cases a; cases b; simp }
instance [EmbEq α] [EmbEq β] : EmbEq (α × β) :=
  { ok := fun p => EmbEq.ok p.1 ∧ EmbEq.ok p.2, dep := max (EmbEq.dep α) (EmbEq.dep β) + 1
    good := fun a n h hn => by
      cases n with
      | zero => omega
      | succ n => simp only [emb, goodD, goodDs, Bool.and_eq_true, and_true]; exact ⟨EmbEq.good _ _ h.1 (by omega), EmbEq.good _ _ h.2 (by omega)⟩
    eq := fun a b ha hb => by
      simp only [emb, eqD, eqDs, Bool.and_eq_true, and_true, EmbEq.eq _ _ ha.1 hb.1, EmbEq.eq _ _ ha.2 hb.2]
      exact Prod.ext_iff.symm }
instance [EmbEq α] [EmbEq β] [EmbEq γ] : EmbEq (Tri α β γ) :=
  { ok := fun p => EmbEq.ok p.a ∧ EmbEq.ok p.b ∧ EmbEq.ok p.c, dep := max (EmbEq.dep α) (max (EmbEq.dep β) (EmbEq.dep γ)) + 1
    good := fun a n h hn => by
      cases n with
      | zero => omega
      | succ n => simp only [emb, goodD, goodDs, Bool.and_eq_true, and_true]; exact ⟨EmbEq.good _ _ h.1 (by omega), EmbEq.good _ _ h.2.1 (by omega), EmbEq.good _ _ h.2.2 (by omega)⟩
    eq := fun a b ha hb => by
      simp only [emb, eqD, eqDs, Bool.and_eq_true, and_true, EmbEq.eq _ _ ha.1 hb.1, EmbEq.eq _ _ ha.2.1 hb.2.1, EmbEq.eq _ _ ha.2.2 hb.2.2]
      cases a; cases b; simp }
theorem dEq_emb [EmbEq α] [DecidableEq α] {a b : α} (hd : EmbEq.dep α ≤ 60) (ha : EmbEq.ok a) (hb : EmbEq.ok b) : dEq (emb a) (emb b) = some (.bl (decide (a = b))) := by
  unfold dEq
  rw [if_pos (.inr ⟨EmbEq.good a 60 ha hd, EmbEq.good b 60 hb hd⟩)]
  congr 2
  rw [Bool.eq_iff_iff, EmbEq.eq a b ha hb]; simp
theorem dNe_emb [EmbEq α] [DecidableEq α] {a b : α} (hd : EmbEq.dep α ≤ 60) (ha : EmbEq.ok a) (hb : EmbEq.ok b) : dNe (emb a) (emb b) = some (.bl (!decide (a = b))) := by
  unfold dNe
  rw [if_pos (.inr ⟨EmbEq.good a 60 ha hd, EmbEq.good b 60 hb hd⟩)]
  congr 3
  rw [Bool.eq_iff_iff, EmbEq.eq a b ha hb]; simp
theorem anyEq_iff [EmbEq α] {x : α} (hx : EmbEq.ok x) : ∀ {l : List α}, (∀ y ∈ l, EmbEq.ok y) → (anyEq (emb x) (l.map emb) = true ↔ x ∈ l)
  | [], _ => by simp [anyEq]
  | y :: l, h => by
    simp only [List.map_cons, anyEq, Bool.or_eq_true, List.mem_cons]
    rw [EmbEq.eq y x (h y List.mem_cons_self) hx, anyEq_iff hx fun z hz => h z (List.mem_cons_of_mem _ hz)]
    exact or_congr ⟨Eq.symm, Eq.symm⟩ Iff.rfl
theorem dIn_emb [EmbEq α] [DecidableEq α] {x : α} {l : List α} (hd : EmbEq.dep α ≤ 59) (hx : EmbEq.ok x) (h : ∀ y ∈ l, EmbEq.ok y) : dIn (emb x) (.lst (l.map emb)) = some (.bl (decide (x ∈ l))) := by
  unfold dIn
  have e : dInB (emb x) (.lst (l.map emb)) = some (anyEq (emb x) (l.map emb)) := by
    have g : goodD 59 (emb x) = true ∧ goodDs 59 (l.map emb) = true := ⟨EmbEq.good x 59 hx hd, goodDs_of hd h⟩
    generalize emb x = d at g ⊢
    generalize l.map emb = L at g ⊢
    cases d <;> exact if_pos g
  rw [e]
  simp only [Option.map_some]
  congr 2
  rw [Bool.eq_iff_iff, anyEq_iff hx h]; simp
theorem dNotIn_emb [EmbEq α] [DecidableEq α] {x : α} {l : List α} (hd : EmbEq.dep α ≤ 59) (hx : EmbEq.ok x) (h : ∀ y ∈ l, EmbEq.ok y) : dNotIn (emb x) (.lst (l.map emb)) = some (.bl (!decide (x ∈ l))) := by
  have := dIn_emb (x := x) (l := l) hd hx h
  unfold dIn at this; unfold dNotIn
  cases hb : dInB (emb x) (.lst (l.map emb)) with
  | none => rw [hb] at this; cases this
  | some k => rw [hb] at this; simp only [Option.map_some, Option.some.injEq, D.bl.injEq] at this ⊢; rw [this]
theorem dEq_self [EmbEq α] [DecidableEq α] {a : α} (hd : EmbEq.dep α ≤ 60) (ha : EmbEq.ok a) : dEq (emb a) (emb a) = some (.bl true) := by rw [dEq_emb hd ha ha]; simp
theorem dNe_self [EmbEq α] [DecidableEq α] {a : α} (hd : EmbEq.dep α ≤ 60) (ha : EmbEq.ok a) : dNe (emb a) (emb a) = some (.bl false) := by rw [dNe_emb hd ha ha]; simp
theorem dIx_nat [Emb α] {l : List α} {k : Nat} (h : k < l.length) : dIx (.lst (l.map emb)) (.int (k : Nat)) = some (emb l[k]) := by
  rw [dIx_lst, atI_map, atI_nat h]; rfl
theorem dIx_int [Emb α] {l : List α} {i : Int} (h0 : 0 ≤ i) (h : i < l.length) : ∃ x, dIx (.lst (l.map emb)) (.int i) = some (emb x) ∧ x ∈ l := by
  obtain ⟨x, e, m⟩ := atI_all h0 h
  exact ⟨x, by rw [dIx_lst, atI_map, e]; rfl, m⟩
theorem dIx_last [Emb α] {l : List α} (h : l ≠ []) : dIx (.lst (l.map emb)) (.int (-1)) = some (emb (l.getLast h)) := by
  rw [dIx_lst, atI_map, atI_getLast h]; rfl
theorem dAdd_lsts [Emb α] {a b : List α} (h : a.length + b.length ≤ 16777216) : dAdd (.lst (a.map emb)) (.lst (b.map emb)) = some (.lst ((a ++ b).map emb)) := by
  rw [dAdd_lst (by simpa using h)]; simp
theorem dAdd_one [Emb α] {a : List α} {x : α} {d : D} (e : d = emb x) (h : a.length < 16777216) : dAdd (.lst (a.map emb)) (.lst [d]) = some (.lst ((a ++ [x]).map emb)) := by
  subst e; rw [dAdd_lst (by simp; omega)]; simp
theorem mAppend_emb [Emb α] {a : List α} {x : α} {d : D} (e : d = emb x) (h : a.length < 16777216) : mAppend (a.map emb) [d] = some ((a ++ [x]).map emb, .non) := by
  subst e; rw [mAppend_one (by simpa using h)]; simp
/-- a loop that appends to a list what some members tell -/
theorem forN_app {α β : Type} [Emb β] {g : α → D} {c : α → Bool} {h : α → β} {f : D → D → Res D} : ∀ {l : List α} {F : List β}, F.length + l.length ≤ 16777216 → (∀ x ∈ l, ∀ F : List β, F.length < 16777216 → f (g x) (.lst (F.map emb)) = .ok (.lst ((if c x = true then F ++ [h x] else F).map emb))) → forN (l.map g) (.lst (F.map emb)) f = .ok (.lst ((F ++ (l.filter c).map h).map emb))
  | [], F, _, _ => by simp
  | x :: l, F, hl, H => by
    have hl' : F.length + (l.length + 1) ≤ 16777216 := by simpa using hl
    rw [List.map_cons, forN_cons, H x List.mem_cons_self F (by omega), Res.bind_ok, forN_app (c := c) (h := h) (by split <;> (try simp) <;> omega) fun y hy => H y (List.mem_cons_of_mem _ hy)]
    rw [List.filter_cons]
    split <;> simp
theorem foldl_count2 {α : Type} {p q : α → Bool} : ∀ {l : List α} {a b : Int}, l.foldl (fun (s : Int × Int) x => if p x = true then (s.1 + 1, s.2) else if q x = true then (s.1, s.2 + 1) else s) (a, b) = (a + ((l.filter p).length : Nat), b + ((l.filter fun x => !p x && q x).length : Nat))
  | [], a, b => by simp
  | x :: l, a, b => by
    rw [List.foldl_cons]
    cases hp : p x
    · rw [if_neg (by simp)]
      cases hq : q x
      · rw [if_neg (by simp), foldl_count2]; simp [List.filter_cons, hp, hq]
      · rw [if_pos rfl, foldl_count2]; simp [List.filter_cons, hp, hq]; omega
    · rw [if_pos rfl, foldl_count2]; simp [List.filter_cons, hp]; omega
abbrev Yes (r : D × D) : Prop := r.1 = .bl true ∧ Feed r.2
abbrev Nx {R : Type} (r : Stp D R) : Prop := ∃ f, r = .next f ∧ Feed f
theorem feed0 (ns : List Int) : Feed (fd ns 0 0 1) := ⟨ns, 0, 0, 1, rfl, by omega, by omega, by omega, by omega⟩
@[simp] theorem dIn_int {x : Int} {l : List Int} : dIn (.int x) (.lst (l.map emb)) = some (.bl (decide (x ∈ l))) := dIn_emb (x := x) (by decide) trivial fun _ _ => trivial
@[simp] theorem dNotIn_int {x : Int} {l : List Int} : dNotIn (.int x) (.lst (l.map emb)) = some (.bl (!decide (x ∈ l))) := dNotIn_emb (x := x) (by decide) trivial fun _ _ => trivial
@[simp] theorem dEq_ints {a b : List Int} : dEq (.lst (a.map emb)) (.lst (b.map emb)) = some (.bl (decide (a = b))) := dEq_emb (a := a) (b := b) (by decide) (fun _ _ => trivial) (fun _ _ => trivial)
@[simp] theorem dNe_ints {a b : List Int} : dNe (.lst (a.map emb)) (.lst (b.map emb)) = some (.bl (!decide (a = b))) := dNe_emb (a := a) (b := b) (by decide) (fun _ _ => trivial) (fun _ _ => trivial)
@[simp] theorem dEq_non_int {i : Int} : dEq .non (.int i) = some (.bl false) := rfl
@[simp] theorem dEq_int_non {i : Int} : dEq (.int i) .non = some (.bl false) := rfl
@[simp] theorem dNe_non_int {i : Int} : dNe .non (.int i) = some (.bl true) := rfl
@[simp] theorem dNe_int_non {i : Int} : dNe (.int i) .non = some (.bl true) := rfl
@[simp] theorem dEq_non_non : dEq .non .non = some (.bl true) := rfl
@[simp] theorem dNe_non_non : dNe .non .non = some (.bl false) := rfl
end
@[simp] theorem bmap {l : List Int} : l.map D.int = l.map emb := rfl
end VL
namespace VL
open PySem PySem.Spec PyProof.Rows L2 VL.Emb
/-- a walk that breaks off at the first item of a kind -/
theorem forB_brk {α σ R : Type} {g : α → D} {f : D → σ → Res (Stp σ R)} {s : σ} {c : α → Bool} {v : α → σ} : ∀ {l : List α}, (∀ x ∈ l, f (g x) s = .ok (if c x = true then .brk (v x) else .next s)) → forB (l.map g) s f = .ok (.next (match l.find? c with | some x => v x | none => s))
  | [], _ => rfl
  | x :: r, H => by
    rw [List.map_cons, forB_cons, H x List.mem_cons_self, List.find?_cons]
    cases hc : c x with
    | true => rfl
    | false => exact forB_brk fun y hy => H y (List.mem_cons_of_mem _ hy)
theorem enum_ups {α : Type} [Emb α] {z : α} {l : List α} : enumD 0 (l.map emb) = (ups 0 l.length).map fun k => .tup [.int k, emb (l.getD k.toNat z)] := by
  have key : ∀ (l : List α) (k : Nat) (m : List α), m.length = k → enumD k (l.map emb) = (ups (k : Nat) l.length).map fun i => .tup [.int i, emb ((m ++ l).getD i.toNat z)] := by
    intro l
    induction l with
    | nil => intro k m _; rfl
    | cons x r ih =>
      intro k m hm
      simp only [List.map_cons, enumD_cons, List.length_cons, ups]
      have := ih (k + 1) (m ++ [x]) (by simp [hm])
      rw [this]
      congr 1
      · congr 2; rw [List.getD_eq_getElem?_getD, Int.toNat_natCast, List.getElem?_append_right (by omega), hm]; simp
      · rw [List.append_assoc]; rfl
  exact key l 0 [] rfl
theorem sortedA_tup {l : List D} (h1 : l.all tupD = true) (h2 : goodDs 59 l = true) (h3 : alikeD l = true) : fSortedA [.lst l] = some (.lst (l.mergeSort leD)) := by
  have e2 : fSortD [.lst l] = some (.lst (l.mergeSort leD)) := by
    have ok : okSort l = true := by unfold okSort; rw [h1, h2, h3]; rfl
    exact if_pos ok
  unfold fSortedA
  cases l with
  | nil => simp [sortI, intsOf]
  | cons x r =>
    have hx : fSorted [.lst (x :: r)] = none := by
      simp only [List.all_cons, Bool.and_eq_true] at h1
      cases x <;> first | (cases h1.1; done) | rfl
    rw [hx]
    exact e2
end VL
namespace VL
open PySem PySem.Spec PyProof.Rows L2 VL.Emb
/-- a loop that hangs a list on for each item -/
theorem forN_flat {α β : Type} [Emb β] {g : α → D} {h : α → List β} {f : D → D → Res D} {b : Nat} : ∀ {l : List α} {F : List β}, F.length + l.length * b ≤ 16777216 → (∀ x ∈ l, (h x).length ≤ b) → (∀ x ∈ l, ∀ F : List β, F.length + b ≤ 16777216 → f (g x) (.lst (F.map emb)) = .ok (.lst ((F ++ h x).map emb))) → forN (l.map g) (.lst (F.map emb)) f = .ok (.lst ((F ++ l.flatMap h).map emb))
  | [], F, _, _, _ => by simp
  | x :: l, F, hl, hb, H => by
    have e : (l.length + 1) * b = l.length * b + b := by rw [Nat.add_mul, Nat.one_mul]
    have hl' : F.length + (l.length * b + b) ≤ 16777216 := by rw [← e]; simpa using hl
    have hx := hb x List.mem_cons_self
    rw [List.map_cons, forN_cons, H x List.mem_cons_self F (by omega), Res.bind_ok, forN_flat (b := b) (h := h) (by rw [List.length_append]; omega) (fun y hy => hb y (List.mem_cons_of_mem _ hy)) fun y hy => H y (List.mem_cons_of_mem _ hy)]
    simp
theorem mExtend_emb {α : Type} [Emb α] {a b : List α} (h : a.length + b.length ≤ 16777216) : mExtend (a.map emb) [.lst (b.map emb)] = some ((a ++ b).map emb, .non) := by
  have : mExtend (a.map emb) [.lst (b.map emb)] = some (a.map emb ++ b.map emb, .non) := if_pos (by simpa using h)
  rw [this]; simp
theorem ixS {p : List Nat} {x : Int} (h0 : 0 ≤ x) (h : x < p.length) (hl : p.length ≤ 16777216) : dIx (.str p) (.int x) = some (.str [p.getD x.toNat 0]) := by
  show (if p.length ≤ 16777216 then (atI p x).map fun c => D.str [c] else none) = _
  rw [if_pos hl]
  unfold atI
  rw [ixN_pos h0 h, Option.bind_some, List.getD_eq_getElem?_getD, List.getElem?_eq_getElem (by omega)]; rfl
@[simp] theorem fTuple_emb {α : Type} [Emb α] {l : List α} : fTuple [.lst (l.map emb)] = some (.tup (l.map emb)) := rfl
theorem ups_nodup : ∀ (n : Nat) (i : Int), (ups i n).Nodup
  | 0, i => by simp [ups]
  | n + 1, i => by
    rw [ups, List.nodup_cons]
    exact ⟨fun h => by rw [mem_ups] at h; omega, ups_nodup n (i + 1)⟩
theorem ups_inc : ∀ (n : Nat) (a : Int), (ups a n).Pairwise (· < ·)
  | 0, a => .nil
  | n + 1, a => by
    rw [ups, List.pairwise_cons]
    exact ⟨fun x hx => by rw [mem_ups] at hx; omega, ups_inc n (a + 1)⟩
theorem ups_get : ∀ (n i : Nat) (a : Int), i < n → (ups a n)[i]? = some (a + i)
  | 0, i, a, h => by omega
  | n + 1, 0, a, h => by simp [ups]
  | n + 1, i + 1, a, h => by
    simp only [ups, List.getElem?_cons_succ]
    rw [ups_get n i (a + 1) (by omega)]; congr 1; omega
end VL

set_option Elab.async false
set_option linter.all false
set_option maxRecDepth 100000
/-! VU: the Sim layer of zip of a text and two tuples. -/
namespace VL
open PySem PySem.Spec PyProof.Rows L2
def zipR3 : D → D → D → Res (List D)
  | .str x, .tup l, .tup m => .ok (zipS x l m)
  | _, _, _ => .bad
theorem eZipS_q {ρ : Env} (f g h : Ev) : eZipS f g h ρ = (f ρ).bind fun r => (g r.2).bind fun q => (h q.2).bind fun t => (zipR3 r.1 q.1 t.1).bind fun l => .ok (l, t.2) := by
  unfold eZipS
  congr 1; funext r; congr 1; funext q; congr 1; funext t
  cases r.1 <;> cases q.1 <;> cases t.1 <;> rfl
@[simp] theorem zipR3_ok (x : List Nat) (l m : List D) : zipR3 (.str x) (.tup l) (.tup m) = .ok (zipS x l m) := rfl
end VL

set_option Elab.async false
set_option linter.all false
set_option maxRecDepth 100000
/-! VW: the Sim layer of objects. -/
namespace VL
open PySem PySem.Spec PyProof.Rows L2
def fldR (cs : List String) (f : String) : D → Res D
  | .obj c fs => if cs.contains c = true then opt (lookF f fs) else .bad
  | _ => .bad
def setFR (cs : List String) (f : String) : D → D → Res D
  | .obj c fs, v => if (cs.contains c && decide (fs.length < 1000)) = true then .ok (.obj c (putFD f v fs)) else .bad
  | _, _ => .bad
def mkR : D → List D → Res D
  | .non, [d] => .ok d
  | _, _ => .bad
@[simp] theorem mkR_ok (d : D) : mkR .non [d] = .ok d := rfl
section
variable {ρ : Env} {k : Es}
theorem eFld_q (cs : List String) (f : String) (ev : Ev) : eFld cs f ev ρ = (ev ρ).bind fun r => (fldR cs f r.1).bind fun y => .ok (y, r.2) := by
  unfold eFld
  congr 1; funext r
  cases r.1 <;> first | rfl | skip
  rename_i c fs
  dsimp only [fldR]
  by_cases h : cs.contains c = true
  · rw [if_pos h, if_pos h]
  · rw [if_neg h, if_neg h]; rfl
theorem sSetF_q (cs : List String) (i : Nat) (f : String) (fe : Ev) : sSetF cs i f fe ρ = (fe ρ).bind fun r => (gv r.2 i).bind fun d => (setFR cs f d r.1).bind fun d' => .ok (.next (r.2.set i (some d'))) := by
  unfold sSetF
  congr 1; funext r; congr 1; funext d
  cases d <;> first | rfl | skip
  rename_i c fs
  dsimp only [setFR]
  by_cases h : (cs.contains c && decide (fs.length < 1000)) = true
  · rw [if_pos h, if_pos h]; rfl
  · rw [if_neg h, if_neg h]; rfl
theorem sq_setF (cs : List String) (i : Nat) (f : String) (fe : Ev) : sSeq (sSetF cs i f fe) k ρ = (fe ρ).bind fun r => (gv r.2 i).bind fun d => (setFR cs f d r.1).bind fun d' => app k (r.2.set i (some d')) := by
  rw [sSeq_ap, sSetF_q]; simp only [Res.bind_assoc, Res.bind_ok]; rfl
theorem eMake_q (nm : String) (pms : List PM) (fe : Fe) (as : List Arg) : eMake nm pms fe as ρ = (Arg.runs as ρ).bind fun p => (Arg.fins as p.1 p.2).bind fun ds => (ckB (ioCells pms ds)).bind fun _ => (fe (.obj nm [] :: ds)).bind fun r => (mkR r.1 r.2).bind fun d => .ok (d, p.2) := by
  unfold eMake
  congr 1; funext p; congr 1; funext ds
  rw [if_ckB]
  congr 1; funext _; congr 1; funext r
  cases h1 : r.1 <;> cases h2 : r.2 <;> first | rfl | skip
  rename_i d l
  cases l <;> rfl
end
def enumTR : D → Res (List D)
  | .tup l => .ok (enumD 0 l)
  | _ => .bad
@[simp] theorem enumTR_ok (l : List D) : enumTR (.tup l) = .ok (enumD 0 l) := rfl
theorem eEnumT_q {ρ : Env} (f : Ev) : eEnumT f ρ = (f ρ).bind fun r => (enumTR r.1).bind fun l => .ok (l, r.2) := by
  unfold eEnumT
  congr 1; funext r
  cases r.1 <;> rfl
end VL

set_option Elab.async false
set_option linter.all false
set_option maxRecDepth 100000
/-! VO: more of the plain layer: counts of filters, optional numbers, pairs in order. -/
namespace VL
open PySem PySem.Spec PyProof.Rows L2 VL.Emb
theorem find_all {α : Type} {l : List α} {c : α → Bool} : (∃ x, l.find? (fun x => !c x) = some x ∧ l.all c = false) ∨ (l.find? (fun x => !c x) = none ∧ l.all c = true) := by
  cases hf : l.find? (fun x => !c x) with
  | none =>
    right; refine ⟨rfl, ?_⟩
    rw [List.find?_eq_none] at hf
    rw [List.all_eq_true]; intro x hx; simpa using hf x hx
  | some x =>
    left; refine ⟨x, rfl, ?_⟩
    have h1 := List.find?_some hf
    have h2 := List.mem_of_find?_eq_some hf
    rw [Bool.eq_false_iff]; intro ha
    rw [List.all_eq_true] at ha
    rw [ha x h2] at h1; cases h1
theorem filtA {α : Type} {l : List α} {p : α → Bool} : ((((l.filter p).length : Nat) : Int) != ((l.length : Nat) : Int)) = !l.all p := by
  rw [Bool.eq_iff_iff]
  simp only [bne_iff_ne, ne_eq, Bool.not_eq_true', Bool.eq_false_iff, List.all_eq_true]
  exact not_congr ⟨fun h => List.length_filter_eq_length_iff.mp (by omega), fun h => by rw [List.length_filter_eq_length_iff.mpr h]⟩
theorem filtL {α : Type} {l : List α} {p : α → Bool} : decide ((((l.filter p).length : Nat) : Int) < ((l.length : Nat) : Int)) = !l.all p := by
  have h1 := List.length_filter_le p l
  rw [← filtA, Bool.eq_iff_iff, decide_eq_true_eq, bne_iff_ne]
  omega
theorem filtE {α : Type} {l : List α} {p : α → Bool} : ((((l.filter p).length : Nat) : Int) == ((l.length : Nat) : Int)) = l.all p := by
  have h1 := filtA (l := l) (p := p)
  rw [bne] at h1
  rw [← Bool.not_inj_iff]; exact h1
theorem filt0 {α : Type} {l : List α} {p : α → Bool} : ((((l.filter p).length : Nat) : Int) == 0) = !l.any p := by
  rw [Bool.eq_iff_iff]
  simp only [beq_iff_eq, Bool.not_eq_true', List.any_eq_false]
  constructor
  · intro h x hx
    have h : (l.filter p).length = 0 := by omega
    exact List.filter_eq_nil_iff.mp (List.length_eq_zero_iff.mp h) x hx
  · intro h
    have : l.filter p = [] := List.filter_eq_nil_iff.mpr fun x hx => h x hx
    rw [this]; rfl
theorem filtP {α : Type} {l : List α} {p : α → Bool} : decide ((0 : Int) < ((l.filter p).length : Nat)) = l.any p := by
  rw [Bool.eq_iff_iff, decide_eq_true_eq, List.any_eq_true]
  constructor
  · intro h
    obtain ⟨x, hx⟩ := List.exists_mem_of_ne_nil (l.filter p) (fun e => by rw [e] at h; simp at h)
    rw [List.mem_filter] at hx; exact ⟨x, hx⟩
  · rintro ⟨x, h⟩
    have := List.length_pos_of_mem (List.mem_filter.mpr h)
    omega
theorem filt_snoc {p : Int → Bool} {k : Nat} : (ups 0 (k + 1)).filter p = (ups 0 k).filter p ++ cond (p k) [(k : Int)] [] := by
  rw [ups_snoc, List.filter_append, Int.zero_add, List.filter_cons, List.filter_nil]
  cases p k <;> rfl
theorem typed_list {α : Type} [Emb α] {P : α → Prop} : ∀ {l : List D}, (∀ y ∈ l, ∃ p : α, y = emb p ∧ P p) → ∃ as : List α, l = as.map emb ∧ ∀ a ∈ as, P a
  | [], _ => ⟨[], rfl, by simp⟩
  | d :: l, h => by
    obtain ⟨p, e, hp⟩ := h d List.mem_cons_self
    obtain ⟨as, e2, h2⟩ := typed_list fun y hy => h y (List.mem_cons_of_mem _ hy)
    exact ⟨p :: as, by rw [e, e2]; rfl, fun a ha => (List.mem_cons.mp ha).elim (fun q => q ▸ hp) (h2 a)⟩
theorem cut_sub {α : Type} {l : List α} {lo hi : Option Int} : ∀ x ∈ cutA l lo hi, x ∈ l := fun x hx => by
  unfold cutA at hx
  exact List.mem_of_mem_drop (List.mem_of_mem_take hx)
theorem cut_len {α : Type} {l : List α} {lo hi : Option Int} : (cutA l lo hi).length ≤ l.length := by
  unfold cutA; rw [List.length_take, List.length_drop]; omega
theorem cut_last {α : Type} {l : List α} : cutA l (some (-1)) none = l.drop (l.length - 1) := by
  unfold cutA HT.sIx
  simp only []
  by_cases h : l.length = 0
  · have : l = [] := List.length_eq_zero_iff.mp h
    subst this; rfl
  · rw [List.take_of_length_le]
    · congr 1; simp; omega
    · simp
theorem ixI {l : List Int} {k : Int} (h0 : 0 ≤ k) (h : k < l.length) : dIx (.lst (l.map emb)) (.int k) = some (.int (l.getD k.toNat 0)) := by
  rw [dIx_lst, atI_map, atI_pos h0 (by omega)]
  rw [List.getD_eq_getElem?_getD, List.getElem?_eq_getElem (by omega)]; rfl
theorem ixL {l : List Int} (h : l.length ≠ 0) : dIx (.lst (l.map emb)) (.int (-1)) = some (.int (l.getD (l.length - 1) 0)) := by
  have hn : l ≠ [] := fun e => h (by rw [e]; rfl)
  rw [dIx_last hn]
  rw [List.getD_eq_getElem?_getD, List.getElem?_eq_getElem (by omega), List.getLast_eq_getElem]; rfl
theorem ixO {l : List (Option Int)} {k : Int} (h0 : 0 ≤ k) (h : k < l.length) : dIx (.lst (l.map emb)) (.int k) = some (emb (l.getD k.toNat none)) := by
  rw [dIx_lst, atI_map, atI_pos h0 (by omega)]
  rw [List.getD_eq_getElem?_getD, List.getElem?_eq_getElem (by omega)]; rfl
theorem isnon (o : Option Int) : isNonD (emb o) = o.isNone := by cases o <;> rfl
instance : EmbEq (Option Int) := { ok := fun _ => True, dep := 0, good := fun a _ _ _ => by cases a <;> simp [emb, goodD], eq := fun a b _ _ => by cases a <;> cases b <;> simp [emb, eqD] }
def inO : Option Int → List Int → Bool
  | none, _ => false
  | some x, l => decide (x ∈ l)
theorem dIn_oi {o : Option Int} {l : List Int} : dIn (emb o) (.lst (l.map emb)) = some (.bl (inO o l)) := by
  have := dIn_emb (α := Option Int) (x := o) (l := l.map some) (by decide) trivial fun _ _ => trivial
  rw [List.map_map] at this
  have e : (emb ∘ some : Int → D) = emb := rfl
  rw [e] at this
  rw [this]
  cases o with
  | none => simp [inO]
  | some x => simp [inO]
theorem mapForN {α σ : Type} {g : α → D} {f : D → σ → Res σ} : ∀ {l : List α} {s : σ} {r : Res σ}, forN (l.map g) s f = r → forN (l.map g) s f = r := fun h => h
/-! pairs in order -/
def lt2 (a b : Int × Int) : Bool := decide (a.1 < b.1 ∨ (a.1 = b.1 ∧ a.2 < b.2))
theorem lt2_iff {a b : Int × Int} : lt2 a b = true ↔ a.1 < b.1 ∨ (a.1 = b.1 ∧ a.2 < b.2) := by unfold lt2; simp
theorem lt2_irr (a : Int × Int) : lt2 a a = false := by unfold lt2; simp
theorem lt2_trans {a b c : Int × Int} (h1 : lt2 a b = true) (h2 : lt2 b c = true) : lt2 a c = true := by rw [lt2_iff] at *; omega
theorem lt2_total {a b : Int × Int} (h : a ≠ b) : lt2 a b = !lt2 b a := by
  have : ¬ (a.1 = b.1 ∧ a.2 = b.2) := fun e => h (Prod.ext e.1 e.2)
  cases h1 : lt2 a b <;> cases h2 : lt2 b a <;> simp only [Bool.not_true, Bool.not_false]
  · have : ¬ (a.1 < b.1 ∨ (a.1 = b.1 ∧ a.2 < b.2)) := fun e => by rw [lt2_iff.mpr e] at h1; cases h1
    have : ¬ (b.1 < a.1 ∨ (b.1 = a.1 ∧ b.2 < a.2)) := fun e => by rw [lt2_iff.mpr e] at h2; cases h2
    omega
  · rw [lt2_iff] at h1 h2; omega
/-- a list in a strict order is the only one with its members -/
theorem ord_uniq {α : Type} {lt : α → α → Bool} (tot : ∀ a b, a ≠ b → lt a b = !lt b a) : ∀ {l m : List α}, l.Perm m → l.Pairwise (fun a b => lt a b = true) → m.Pairwise (fun a b => lt a b = true) → l = m
  | [], m, h, _, _ => by rw [List.nil_perm.mp h]
  | x :: r, [], h, _, _ => by have := h.length_eq; simp at this
  | x :: r, y :: t, h, ha, hb => by
    rw [List.pairwise_cons] at ha hb
    have e : x = y := by
      have h1 : x ∈ y :: t := h.mem_iff.mp List.mem_cons_self
      have h2 : y ∈ x :: r := h.mem_iff.mpr List.mem_cons_self
      refine Classical.byContradiction fun hn => ?_
      have a1 : lt x y = true := by
        rcases List.mem_cons.mp h2 with e | hm
        · exact absurd e.symm hn
        · exact ha.1 y hm
      have a2 : lt y x = true := by
        rcases List.mem_cons.mp h1 with e | hm
        · exact absurd e hn
        · exact hb.1 x hm
      rw [tot x y hn, a2] at a1; cases a1
    subst e
    rw [ord_uniq tot ((List.perm_cons _).mp h) ha.2 hb.2]
/-- sorting by a strict order -/
theorem ord_sort {α : Type} {lt : α → α → Bool} (tot : ∀ a b, a ≠ b → lt a b = !lt b a) (irr : ∀ a, lt a a = false) (tr : ∀ a b c, lt a b = true → lt b c = true → lt a c = true) {l X : List α} (nd : l.Nodup) (hp : X.Pairwise (fun a b => lt a b = true)) (hm : ∀ x, x ∈ l ↔ x ∈ X) : l.mergeSort (fun a b => !lt b a) = X := by
  classical
  have pm : (l.mergeSort fun a b => !lt b a).Perm l := List.mergeSort_perm _ _
  have sd := List.pairwise_mergeSort (le := fun a b => !lt b a) (fun a b c h1 h2 => by
    simp only [Bool.not_eq_true'] at *
    by_cases hab : a = b
    · subst hab; exact h2
    · by_cases hbc : b = c
      · subst hbc; exact h1
      · rw [tot _ _ (fun e => hab e.symm), Bool.not_eq_false'] at h1
        rw [tot _ _ (fun e => hbc e.symm), Bool.not_eq_false'] at h2
        have := tr _ _ _ h1 h2
        by_cases hac : c = a
        · subst hac; exact irr _
        · rw [tot _ _ hac, this]; rfl) (fun a b => by
    by_cases h : a = b
    · subst h; simp [irr]
    · rw [tot _ _ h]; cases lt b a <;> rfl) l
  have nds : (l.mergeSort fun a b => !lt b a).Nodup := pm.nodup_iff.mpr nd
  have sl := (List.Pairwise.and sd nds).imp fun {a b} ⟨h1, h2⟩ => by
    show lt a b = true
    rw [tot _ _ h2]; exact h1
  have ndX : X.Nodup := hp.imp fun {a b} h e => by subst e; rw [irr] at h; cases h
  have pX : (l.mergeSort fun a b => !lt b a).Perm X := (List.perm_ext_iff_of_nodup nds ndX).mpr fun x => by rw [pm.mem_iff, hm]
  exact ord_uniq tot pX sl hp
theorem lt_pair (a b a' b' : Int) : PySem.W.dataLt (.tuple [.int a, .int b]) (.tuple [.int a', .int b']) = decide (a < a' ∨ (a = a' ∧ b < b')) := by
  have al : ∀ x y : Int, PySem.W.alike (.int x) (.int y) = true := fun x y => by simp [PySem.W.alike]
  rw [PySem.W.dataLt_tuple, PySem.W.dataLt_cons (al _ _), PySem.W.dataLt_cons (al _ _)]
  have e : PyProof.Rows.lexLt itemOrd (PySem.W.keyToksAll []) (PySem.W.keyToksAll []) = false := lex_irrefl _
  rw [e, PySem.W.dataLt_int, PySem.W.dataLt_int]
  simp only [PyData.eqv, beq_iff_eq]
  by_cases h1 : a = a' <;> by_cases h2 : b = b' <;> simp [h1, h2]
theorem le_pair {a b : Int × Int} : leD (emb a) (emb b) = !lt2 b a := by
  show (!PySem.W.dataLt (.tuple [.int _, .int _]) (.tuple [.int _, .int _])) = _
  rw [lt_pair]; rfl
theorem sort_pairs {l X : List (Int × Int)} (hp : X.Pairwise (fun a b => lt2 a b = true)) (nd : l.Nodup) (hm : ∀ x, x ∈ l ↔ x ∈ X) : fSortedA [.lst (l.map emb)] = some (.lst (X.map emb)) := by
  have s := sortedA_tup (l := l.map (emb : Int × Int → D)) (by rw [List.all_map, List.all_eq_true]; intro x _; rfl) (by
    have : ∀ l : List (Int × Int), goodDs 59 (l.map emb) = true := fun l => by
      induction l with
      | nil => rfl
      | cons x r ih => simp only [List.map_cons, goodDs, ih, Bool.and_true]; rfl
    exact this _) (by
    unfold alikeD
    rw [List.all_map, List.all_eq_true]
    intro x _
    show ((l.map (emb : Int × Int → D)).all fun b => _) = true
    rw [List.all_map, List.all_eq_true]
    intro y _
    show PySem.W.alike (PyData.tuple [.int x.1, .int x.2]) (PyData.tuple [.int y.1, .int y.2]) = true
    simp [PySem.W.alike, PySem.W.alikeAll])
  have sm : (l.map (emb : Int × Int → D)).mergeSort leD = (l.mergeSort fun a b => !lt2 b a).map emb := by
    rw [PySem.W.sort_maps (s := leD) (emb : Int × Int → D) (fun _ _ _ _ => le_pair.symm)]
  rw [s, sm, ord_sort (lt := lt2) (fun _ _ h => lt2_total h) lt2_irr (fun _ _ _ h1 h2 => lt2_trans h1 h2) nd hp hm]
end VL

set_option Elab.async false
set_option linter.all false
set_option maxRecDepth 100000
set_option maxHeartbeats 4000000
namespace G_k06
open PySem PySem.Spec PyProof.Rows L2 VL
def topS (i : Nat) : Stmt := PySem.Challenge.pw_rulingstold_k06_whole_least_books.main.body.getD i (.Pass ⟨0, 0, 0, 0⟩)
abbrev s_is_whole : Stmt := topS 7
abbrev N_is_whole : List Str := ["value"]
theorem sc_is_whole : FnScope N_is_whole ["value"] (defScope s_is_whole) := ⟨rfl, rfl, rfl, by decide +kernel, rfl, by decide +kernel, by decide +kernel⟩
abbrev s_is_answer : Stmt := topS 8
abbrev N_is_answer : List Str := ["value"]
theorem sc_is_answer : FnScope N_is_answer ["value"] (defScope s_is_answer) := ⟨rfl, rfl, rfl, by decide +kernel, rfl, by decide +kernel, by decide +kernel⟩
abbrev s_check_sides : Stmt := topS 12
abbrev N_check_sides : List Str := ["sides", "at", "side"]
theorem sc_check_sides : FnScope N_check_sides ["sides"] (defScope s_check_sides) := ⟨rfl, rfl, rfl, by decide +kernel, rfl, by decide +kernel, by decide +kernel⟩
abbrev s_is_case : Stmt := topS 13
abbrev N_is_case : List Str := ["sides", "value", "grade"]
theorem sc_is_case : FnScope N_is_case ["sides", "value"] (defScope s_is_case) := ⟨rfl, rfl, rfl, by decide +kernel, rfl, by decide +kernel, by decide +kernel⟩
abbrev s_at_least : Stmt := topS 14
abbrev N_at_least : List Str := ["sides", "c", "d", "side", "grade", "other"]
theorem sc_at_least : FnScope N_at_least ["sides", "c", "d"] (defScope s_at_least) := ⟨rfl, rfl, rfl, by decide +kernel, rfl, by decide +kernel, by decide +kernel⟩
abbrev s_is_ruling : Stmt := topS 17
abbrev N_is_ruling : List Str := ["sides", "value"]
theorem sc_is_ruling : FnScope N_is_ruling ["sides", "value"] (defScope s_is_ruling) := ⟨rfl, rfl, rfl, by decide +kernel, rfl, by decide +kernel, by decide +kernel⟩
abbrev s_indexes_of : Stmt := topS 19
abbrev N_indexes_of : List Str := ["book", "answer", "k", "ruling"]
theorem sc_indexes_of : FnScope N_indexes_of ["book", "answer"] (defScope s_indexes_of) := ⟨rfl, rfl, rfl, by decide +kernel, rfl, by decide +kernel, by decide +kernel⟩
abbrev s_crosses : Stmt := topS 20
abbrev N_crosses : List Str := ["book", "i", "j", "removed", "answer", "kept", "other"]
theorem sc_crosses : FnScope N_crosses ["book", "i", "j"] (defScope s_crosses) := ⟨rfl, rfl, rfl, by decide +kernel, rfl, by decide +kernel, by decide +kernel⟩
abbrev s_first_cross : Stmt := topS 21
abbrev N_first_cross : List Str := ["book", "i", "j"]
theorem sc_first_cross : FnScope N_first_cross ["book"] (defScope s_first_cross) := ⟨rfl, rfl, rfl, by decide +kernel, rfl, by decide +kernel, by decide +kernel⟩
abbrev s_check_sound : Stmt := topS 22
abbrev N_check_sound : List Str := ["book", "pair"]
theorem sc_check_sound : FnScope N_check_sound ["book"] (defScope s_check_sound) := ⟨rfl, rfl, rfl, by decide +kernel, rfl, by decide +kernel, by decide +kernel⟩
abbrev s_says : Stmt := topS 24
abbrev N_says : List Str := ["sides", "ruling", "case", "ruled", "answer"]
theorem sc_says : FnScope N_says ["sides", "ruling", "case"] (defScope s_says) := ⟨rfl, rfl, rfl, by decide +kernel, rfl, by decide +kernel, by decide +kernel⟩
abbrev s_is_passed : Stmt := topS 25
abbrev N_is_passed : List Str := ["book", "k", "case", "answer", "j", "other"]
theorem sc_is_passed : FnScope N_is_passed ["book", "k"] (defScope s_is_passed) := ⟨rfl, rfl, rfl, by decide +kernel, rfl, by decide +kernel, by decide +kernel⟩
abbrev s_Book : Stmt := clsInit (topS 18)
abbrev N_Book : List Str := ["self", "sides", "rulings", "at", "ruling"]
theorem sc_Book : FnScope N_Book ["self", "sides", "rulings"] (defScope s_Book) := ⟨rfl, rfl, rfl, by decide +kernel, rfl, by decide +kernel, by decide +kernel⟩
abbrev s_least_book : Stmt := topS 26
abbrev N_least_book : List Str := ["book", "kept", "k", "ruling"]
theorem sc_least_book : FnScope N_least_book ["book"] (defScope s_least_book) := ⟨rfl, rfl, rfl, by decide +kernel, rfl, by decide +kernel, by decide +kernel⟩
abbrev s__law_feed : Stmt := topS 28
abbrev N__law_feed : List Str := ["script"]
theorem sc__law_feed : FnScope N__law_feed ["script"] (defScope s__law_feed) := ⟨rfl, rfl, rfl, by decide +kernel, rfl, by decide +kernel, by decide +kernel⟩
abbrev s__law_draw : Stmt := topS 29
abbrev N__law_draw : List Str := ["feed", "many", "cell", "told", "mixed"]
theorem sc__law_draw : FnScope N__law_draw ["feed", "many"] (defScope s__law_draw) := ⟨rfl, rfl, rfl, by decide +kernel, rfl, by decide +kernel, by decide +kernel⟩
abbrev s__law_sides : Stmt := topS 30
abbrev N__law_sides : List Str := ["feed", "most", "k"]
theorem sc__law_sides : FnScope N__law_sides ["feed", "most"] (defScope s__law_sides) := ⟨rfl, rfl, rfl, by decide +kernel, rfl, by decide +kernel, by decide +kernel⟩
abbrev s__law_case : Stmt := topS 31
abbrev N__law_case : List Str := ["feed", "sides", "sign"]
theorem sc__law_case : FnScope N__law_case ["feed", "sides"] (defScope s__law_case) := ⟨rfl, rfl, rfl, by decide +kernel, rfl, by decide +kernel, by decide +kernel⟩
abbrev s__law_cases : Stmt := topS 32
abbrev N__law_cases : List Str := ["sides", "found", "sign", "longer", "case", "grade"]
theorem sc__law_cases : FnScope N__law_cases ["sides"] (defScope s__law_cases) := ⟨rfl, rfl, rfl, by decide +kernel, rfl, by decide +kernel, by decide +kernel⟩
abbrev s__law_ge : Stmt := topS 33
abbrev N__law_ge : List Str := ["sides", "c", "d", "k"]
theorem sc__law_ge : FnScope N__law_ge ["sides", "c", "d"] (defScope s__law_ge) := ⟨rfl, rfl, rfl, by decide +kernel, rfl, by decide +kernel, by decide +kernel⟩
abbrev s__law_rulings : Stmt := topS 34
abbrev N__law_rulings : List Str := ["feed", "sides", "most", "least", "rulings", "k", "case", "at", "removed", "one"]
theorem sc__law_rulings : FnScope N__law_rulings ["feed", "sides", "most"] (defScope s__law_rulings) := ⟨rfl, rfl, rfl, by decide +kernel, rfl, by decide +kernel, by decide +kernel⟩
abbrev s__law_flipped : Stmt := topS 35
abbrev N__law_flipped : List Str := ["feed", "rulings", "found", "k", "at", "case", "said"]
theorem sc__law_flipped : FnScope N__law_flipped ["feed", "rulings"] (defScope s__law_flipped) := ⟨rfl, rfl, rfl, by decide +kernel, rfl, by decide +kernel, by decide +kernel⟩
abbrev s__law_some_book : Stmt := topS 36
abbrev N__law_some_book : List Str := ["feed", "sides", "most", "rulings"]
theorem sc__law_some_book : FnScope N__law_some_book ["feed"] (defScope s__law_some_book) := ⟨rfl, rfl, rfl, by decide +kernel, rfl, by decide +kernel, by decide +kernel⟩
abbrev s__law_cross : Stmt := topS 37
abbrev N__law_cross : List Str := ["sides", "rulings", "i", "j"]
theorem sc__law_cross : FnScope N__law_cross ["sides", "rulings"] (defScope s__law_cross) := ⟨rfl, rfl, rfl, by decide +kernel, rfl, by decide +kernel, by decide +kernel⟩
abbrev s__law_more : Stmt := topS 38
abbrev N__law_more : List Str := ["feed", "sides", "rulings", "found", "k", "case", "answer", "at", "step", "grade"]
theorem sc__law_more : FnScope N__law_more ["feed", "sides", "rulings"] (defScope s__law_more) := ⟨rfl, rfl, rfl, by decide +kernel, rfl, by decide +kernel, by decide +kernel⟩
abbrev s__law_says : Stmt := topS 39
abbrev N__law_says : List Str := ["sides", "ruling", "case"]
theorem sc__law_says : FnScope N__law_says ["sides", "ruling", "case"] (defScope s__law_says) := ⟨rfl, rfl, rfl, by decide +kernel, rfl, by decide +kernel, by decide +kernel⟩
abbrev s__law_passed : Stmt := topS 40
abbrev N__law_passed : List Str := ["sides", "rulings", "k", "j"]
theorem sc__law_passed : FnScope N__law_passed ["sides", "rulings", "k"] (defScope s__law_passed) := ⟨rfl, rfl, rfl, by decide +kernel, rfl, by decide +kernel, by decide +kernel⟩
abbrev s__law_bound : Stmt := topS 41
abbrev N__law_bound : List Str := ["sides", "rulings", "every", "found", "case", "said", "ruling"]
theorem sc__law_bound : FnScope N__law_bound ["sides", "rulings", "every"] (defScope s__law_bound) := ⟨rfl, rfl, rfl, by decide +kernel, rfl, by decide +kernel, by decide +kernel⟩
abbrev s__law_asks : Stmt := topS 42
abbrev N__law_asks : List Str := ["sides", "rulings", "book", "pair", "told", "e", "due", "every", "bound", "k"]
theorem sc__law_asks : FnScope N__law_asks ["sides", "rulings"] (defScope s__law_asks) := ⟨rfl, rfl, rfl, by decide +kernel, rfl, by decide +kernel, by decide +kernel⟩
abbrev s_law : Stmt := topS 43
abbrev N_law : List Str := ["script", "feed", "turn", "sides", "rulings"]
theorem sc_law : FnScope N_law ["script"] (defScope s_law) := ⟨rfl, rfl, rfl, by decide +kernel, rfl, by decide +kernel, by decide +kernel⟩
abbrev si_BadSides : Stmt := clsInit (topS 2)
theorem sci_BadSides : FnScope ["self", "at"] ["self", "at"] (defScope si_BadSides) := ⟨rfl, rfl, rfl, by decide +kernel, rfl, by decide +kernel, by decide +kernel⟩
abbrev si_BadRuling : Stmt := clsInit (topS 3)
theorem sci_BadRuling : FnScope ["self", "at"] ["self", "at"] (defScope si_BadRuling) := ⟨rfl, rfl, rfl, by decide +kernel, rfl, by decide +kernel, by decide +kernel⟩
abbrev si_Crossed : Stmt := clsInit (topS 4)
theorem sci_Crossed : FnScope ["self", "i", "j"] ["self", "i", "j"] (defScope si_Crossed) := ⟨rfl, rfl, rfl, by decide +kernel, rfl, by decide +kernel, by decide +kernel⟩
structure Top (K : PySem.W.Frag) (mg : Str → Option Value) where
  a_is_whole : Addr
  d_is_whole : FuncData
  F_is_whole : Fun K "is_whole" "is_whole" s_is_whole a_is_whole d_is_whole
  m_is_whole : mg "is_whole" = some (.ref a_is_whole)
  b_is_whole : Binds K d_is_whole ["value"] []
  a_is_answer : Addr
  d_is_answer : FuncData
  F_is_answer : Fun K "is_answer" "is_answer" s_is_answer a_is_answer d_is_answer
  m_is_answer : mg "is_answer" = some (.ref a_is_answer)
  b_is_answer : Binds K d_is_answer ["value"] []
  a_check_sides : Addr
  d_check_sides : FuncData
  F_check_sides : Fun K "check_sides" "check_sides" s_check_sides a_check_sides d_check_sides
  m_check_sides : mg "check_sides" = some (.ref a_check_sides)
  b_check_sides : Binds K d_check_sides ["sides"] []
  a_is_case : Addr
  d_is_case : FuncData
  F_is_case : Fun K "is_case" "is_case" s_is_case a_is_case d_is_case
  m_is_case : mg "is_case" = some (.ref a_is_case)
  b_is_case : Binds K d_is_case ["sides", "value"] []
  a_at_least : Addr
  d_at_least : FuncData
  F_at_least : Fun K "at_least" "at_least" s_at_least a_at_least d_at_least
  m_at_least : mg "at_least" = some (.ref a_at_least)
  b_at_least : Binds K d_at_least ["sides", "c", "d"] []
  a_is_ruling : Addr
  d_is_ruling : FuncData
  F_is_ruling : Fun K "is_ruling" "is_ruling" s_is_ruling a_is_ruling d_is_ruling
  m_is_ruling : mg "is_ruling" = some (.ref a_is_ruling)
  b_is_ruling : Binds K d_is_ruling ["sides", "value"] []
  a_indexes_of : Addr
  d_indexes_of : FuncData
  F_indexes_of : Fun K "indexes_of" "indexes_of" s_indexes_of a_indexes_of d_indexes_of
  m_indexes_of : mg "indexes_of" = some (.ref a_indexes_of)
  b_indexes_of : Binds K d_indexes_of ["book", "answer"] []
  a_crosses : Addr
  d_crosses : FuncData
  F_crosses : Fun K "crosses" "crosses" s_crosses a_crosses d_crosses
  m_crosses : mg "crosses" = some (.ref a_crosses)
  b_crosses : Binds K d_crosses ["book", "i", "j"] []
  a_first_cross : Addr
  d_first_cross : FuncData
  F_first_cross : Fun K "first_cross" "first_cross" s_first_cross a_first_cross d_first_cross
  m_first_cross : mg "first_cross" = some (.ref a_first_cross)
  b_first_cross : Binds K d_first_cross ["book"] []
  a_check_sound : Addr
  d_check_sound : FuncData
  F_check_sound : Fun K "check_sound" "check_sound" s_check_sound a_check_sound d_check_sound
  m_check_sound : mg "check_sound" = some (.ref a_check_sound)
  b_check_sound : Binds K d_check_sound ["book"] []
  a_says : Addr
  d_says : FuncData
  F_says : Fun K "says" "says" s_says a_says d_says
  m_says : mg "says" = some (.ref a_says)
  b_says : Binds K d_says ["sides", "ruling", "case"] []
  a_is_passed : Addr
  d_is_passed : FuncData
  F_is_passed : Fun K "is_passed" "is_passed" s_is_passed a_is_passed d_is_passed
  m_is_passed : mg "is_passed" = some (.ref a_is_passed)
  b_is_passed : Binds K d_is_passed ["book", "k"] []
  a_Book : Addr
  d_Book : FuncData
  C_Book : Addr
  F_Book : Fun K "__init__" "Book.__init__" s_Book a_Book d_Book
  g_Book : mg (Str.ofString "Book") = some (.ref C_Book)
  o_Book : OCls K mg "Book" C_Book ["sides", "rulings"]
  k_Book : Mk K C_Book a_Book
  b_Book : Binds K d_Book ["self", "sides", "rulings"] []
  ty_Book : OTy K mg "Book" C_Book
  tt_Book : PySem.W.typeIn K (.ref C_Book) = some (.type "type")
  a_least_book : Addr
  d_least_book : FuncData
  F_least_book : Fun K "least_book" "least_book" s_least_book a_least_book d_least_book
  m_least_book : mg "least_book" = some (.ref a_least_book)
  b_least_book : Binds K d_least_book ["book"] []
  a__law_feed : Addr
  d__law_feed : FuncData
  F__law_feed : Fun K "_law_feed" "_law_feed" s__law_feed a__law_feed d__law_feed
  m__law_feed : mg "_law_feed" = some (.ref a__law_feed)
  b__law_feed : Binds K d__law_feed ["script"] []
  a__law_draw : Addr
  d__law_draw : FuncData
  F__law_draw : Fun K "_law_draw" "_law_draw" s__law_draw a__law_draw d__law_draw
  m__law_draw : mg "_law_draw" = some (.ref a__law_draw)
  b__law_draw : Binds K d__law_draw ["feed", "many"] []
  a__law_sides : Addr
  d__law_sides : FuncData
  F__law_sides : Fun K "_law_sides" "_law_sides" s__law_sides a__law_sides d__law_sides
  m__law_sides : mg "_law_sides" = some (.ref a__law_sides)
  b__law_sides : Binds K d__law_sides ["feed", "most"] []
  a__law_case : Addr
  d__law_case : FuncData
  F__law_case : Fun K "_law_case" "_law_case" s__law_case a__law_case d__law_case
  m__law_case : mg "_law_case" = some (.ref a__law_case)
  b__law_case : Binds K d__law_case ["feed", "sides"] []
  a__law_cases : Addr
  d__law_cases : FuncData
  F__law_cases : Fun K "_law_cases" "_law_cases" s__law_cases a__law_cases d__law_cases
  m__law_cases : mg "_law_cases" = some (.ref a__law_cases)
  b__law_cases : Binds K d__law_cases ["sides"] []
  a__law_ge : Addr
  d__law_ge : FuncData
  F__law_ge : Fun K "_law_ge" "_law_ge" s__law_ge a__law_ge d__law_ge
  m__law_ge : mg "_law_ge" = some (.ref a__law_ge)
  b__law_ge : Binds K d__law_ge ["sides", "c", "d"] []
  a__law_rulings : Addr
  d__law_rulings : FuncData
  F__law_rulings : Fun K "_law_rulings" "_law_rulings" s__law_rulings a__law_rulings d__law_rulings
  m__law_rulings : mg "_law_rulings" = some (.ref a__law_rulings)
  b__law_rulings : Binds K d__law_rulings ["feed", "sides", "most"] []
  a__law_flipped : Addr
  d__law_flipped : FuncData
  F__law_flipped : Fun K "_law_flipped" "_law_flipped" s__law_flipped a__law_flipped d__law_flipped
  m__law_flipped : mg "_law_flipped" = some (.ref a__law_flipped)
  b__law_flipped : Binds K d__law_flipped ["feed", "rulings"] []
  a__law_some_book : Addr
  d__law_some_book : FuncData
  F__law_some_book : Fun K "_law_some_book" "_law_some_book" s__law_some_book a__law_some_book d__law_some_book
  m__law_some_book : mg "_law_some_book" = some (.ref a__law_some_book)
  b__law_some_book : Binds K d__law_some_book ["feed"] []
  a__law_cross : Addr
  d__law_cross : FuncData
  F__law_cross : Fun K "_law_cross" "_law_cross" s__law_cross a__law_cross d__law_cross
  m__law_cross : mg "_law_cross" = some (.ref a__law_cross)
  b__law_cross : Binds K d__law_cross ["sides", "rulings"] []
  a__law_more : Addr
  d__law_more : FuncData
  F__law_more : Fun K "_law_more" "_law_more" s__law_more a__law_more d__law_more
  m__law_more : mg "_law_more" = some (.ref a__law_more)
  b__law_more : Binds K d__law_more ["feed", "sides", "rulings"] []
  a__law_says : Addr
  d__law_says : FuncData
  F__law_says : Fun K "_law_says" "_law_says" s__law_says a__law_says d__law_says
  m__law_says : mg "_law_says" = some (.ref a__law_says)
  b__law_says : Binds K d__law_says ["sides", "ruling", "case"] []
  a__law_passed : Addr
  d__law_passed : FuncData
  F__law_passed : Fun K "_law_passed" "_law_passed" s__law_passed a__law_passed d__law_passed
  m__law_passed : mg "_law_passed" = some (.ref a__law_passed)
  b__law_passed : Binds K d__law_passed ["sides", "rulings", "k"] []
  a__law_bound : Addr
  d__law_bound : FuncData
  F__law_bound : Fun K "_law_bound" "_law_bound" s__law_bound a__law_bound d__law_bound
  m__law_bound : mg "_law_bound" = some (.ref a__law_bound)
  b__law_bound : Binds K d__law_bound ["sides", "rulings", "every"] []
  a__law_asks : Addr
  d__law_asks : FuncData
  F__law_asks : Fun K "_law_asks" "_law_asks" s__law_asks a__law_asks d__law_asks
  m__law_asks : mg "_law_asks" = some (.ref a__law_asks)
  b__law_asks : Binds K d__law_asks ["sides", "rulings"] []
  a_law : Addr
  d_law : FuncData
  F_law : Fun K "law" "law" s_law a_law d_law
  m_law : mg "law" = some (.ref a_law)
  b_law : Binds K d_law ["script"] []
  oT : OTop K
  C_BadSides : Addr
  i_BadSides : Addr
  di_BadSides : FuncData
  x_BadSides : XCls K mg "BadSides" C_BadSides i_BadSides [Str.ofString "at"]
  Fi_BadSides : Fun K "__init__" "BadSides.__init__" si_BadSides i_BadSides di_BadSides
  bi_BadSides : Binds K di_BadSides ["self", "at"] []
  xf_BadSides : XfC K C_BadSides
  ex_BadSides : ExcC K C_BadSides
  C_BadRuling : Addr
  i_BadRuling : Addr
  di_BadRuling : FuncData
  x_BadRuling : XCls K mg "BadRuling" C_BadRuling i_BadRuling [Str.ofString "at"]
  Fi_BadRuling : Fun K "__init__" "BadRuling.__init__" si_BadRuling i_BadRuling di_BadRuling
  bi_BadRuling : Binds K di_BadRuling ["self", "at"] []
  xf_BadRuling : XfC K C_BadRuling
  ex_BadRuling : ExcC K C_BadRuling
  C_Crossed : Addr
  g_Crossed : mg "Crossed" = some (.ref C_Crossed)
  i_Crossed : Addr
  di_Crossed : FuncData
  x_Crossed : XCls K mg "Crossed" C_Crossed i_Crossed [Str.ofString "i", Str.ofString "j"]
  Fi_Crossed : Fun K "__init__" "Crossed.__init__" si_Crossed i_Crossed di_Crossed
  bi_Crossed : Binds K di_Crossed ["self", "i", "j"] []
  xf_Crossed : XfC K C_Crossed
  ex_Crossed : ExcC K C_Crossed
  em_Crossed_Crossed : PySem.W.exmOne K (.ref C_Crossed) (.ref C_Crossed) = some true
  z_abs : mg "abs" = none
  z_bool : mg "bool" = none
  z_enumerate : mg "enumerate" = none
  z_int : mg "int" = none
  z_isinstance : mg "isinstance" = none
  z_len : mg "len" = none
  z_list : mg "list" = none
  z_max : mg "max" = none
  z_min : mg "min" = none
  z_range : mg "range" = none
  z_str : mg "str" = none
  z_tuple : mg "tuple" = none
  z_zip : mg "zip" = none
  c_ANSWERS : ∃ (a : Addr) (o : Obj) (its : Array Value) (n : Nat), mg "ANSWERS" = some (.ref a) ∧ K.lookup a = some o ∧ o.cls = .type "tuple" ∧ o.data = .seq its n ∧ its.size ≤ sizeLine ∧ Vals (([[114, 101, 109, 111, 118, 101], [107, 101, 101, 112]] : List (List Nat)).map fun l => V.str ⟨l.toArray⟩) its.toList
  c_MOST_GRADE : ∃ t, mg "MOST_GRADE" = some (.int 3 t)
  c_MOST_RULINGS : ∃ t, mg "MOST_RULINGS" = some (.int 30 t)
  c_MOST_SIGNS : ∃ t, mg "MOST_SIGNS" = some (.int 5 t)
section
variable {P : Program} {w : World} {K : PySem.W.Frag} {mg : Str → Option Value} {base : Heap}
theorem hf_rulings (T : Top K mg) : HasF K mg ["Book"] "rulings" := T.o_Book.has (by simp)
theorem hf_sides (T : Top K mg) : HasF K mg ["Book"] "sides" := T.o_Book.has (by simp)
theorem ok_init_BadSides (T : Top K mg) : FnOk P w K mg base CX0 1 T.i_BadSides T.di_BadSides ["self", "at"] (spI1 T.C_BadSides "at") := ok_init1 T.Fi_BadSides sci_BadSides T.x_BadSides.T (T.x_BadSides.no _ (by simp)) rfl fun cdv A outer s H E => ⟨pv 0, pv 1⟩
theorem ok_init_BadRuling (T : Top K mg) : FnOk P w K mg base CX0 1 T.i_BadRuling T.di_BadRuling ["self", "at"] (spI1 T.C_BadRuling "at") := ok_init1 T.Fi_BadRuling sci_BadRuling T.x_BadRuling.T (T.x_BadRuling.no _ (by simp)) rfl fun cdv A outer s H E => ⟨pv 0, pv 1⟩
theorem ok_init_Crossed (T : Top K mg) : FnOk P w K mg base CX0 1 T.i_Crossed T.di_Crossed ["self", "i", "j"] (spI2 T.C_Crossed "i" "j") := ok_init2 T.Fi_Crossed sci_Crossed T.x_Crossed.T (T.x_Crossed.no _ (by simp)) (T.x_Crossed.no _ (by simp)) rfl fun cdv A outer s H E => ⟨pv 0, pv 1, pv 0, pv 2⟩
def b_is_whole : Es := (sRet (eUp (eAndV (eCall (fIsi "int") [.bor (.slot 0), .val eTy]) (eNotV (eCall (fIsi "bool") [.bor (.slot 0), .val eTy])))))
def v_is_whole : Fe := fun ds => noexn (fnEv [.brw] 1 b_is_whole ds)
theorem ok_is_whole (T : Top K mg) : FnOk P w K mg base CX0 3 T.a_is_whole T.d_is_whole ["value"] (spFn K mg [.brw] .own v_is_whole EX0) := by
  refine fn_ok0 (N := N_is_whole) (As := List.range 1) T.F_is_whole sc_is_whole rfl (by decide) (fun cdv A outer s H vs E hr hl hio => ?_) (.inl rfl)
  have hp : PassesOwn (model P w) (A.deeper (envOfC "is_whole" (defScope s_is_whole) s.heap.objs.size T.a_is_whole cdv)) (envOfC "is_whole" (defScope s_is_whole) s.heap.objs.size T.a_is_whole cdv) (fun _ _ => False) := PassesOwn.never
  have hN := sc_is_whole.nd
  have hu : (A.deeper (envOfC "is_whole" (defScope s_is_whole) s.heap.objs.size T.a_is_whole cdv)).units + 64 < cLine := by have := hr.un; omega
  have hu0 : (A.deeper (envOfC "is_whole" (defScope s_is_whole) s.heap.objs.size T.a_is_whole cdv)).units < cLine := by have := hr.un; omega
  have hu1 : (A.deeper (envOfC "is_whole" (defScope s_is_whole) s.heap.objs.size T.a_is_whole cdv)).units + 65 < cLine := by have := hr.un; omega
  match vs, hl with
  | [x0], _ =>
  exact ⟨[.fz], (by intro i q h; cases h), (vss_one (vs_ret (ve_up (ve_and (ve_isi (T := "int") (by decide +kernel) (.ty _) (vb_slot (pv 0)) (fun h => pe_callB call_isi (by rfl) T.z_isinstance (by decide +kernel) (pa_cons h (pa_cons (pe_bltn (v := .ty "int") (by rfl) T.z_int (by decide +kernel) rfl) pa_nil)))) (ve_one (ve_not (ve_isi (T := "bool") (by decide +kernel) (.ty _) (vb_slot (pv 0)) (fun h => pe_callB call_isi (by rfl) T.z_isinstance (by decide +kernel) (pa_cons h (pa_cons (pe_bltn (v := .ty "bool") (by rfl) T.z_bool (by decide +kernel) rfl) pa_nil)))))))) rfl (by intro i q h; cases h)))⟩
def b_is_answer : Es := (sRet (eUp (eAndV (eCall (fIsi "str") [.bor (.slot 0), .val eTy]) (eBin dIn (.slot 0) (.ex (eC (.tup [.str [114, 101, 109, 111, 118, 101], .str [107, 101, 101, 112]])))))))
def v_is_answer : Fe := fun ds => noexn (fnEv [.brw] 1 b_is_answer ds)
theorem ok_is_answer (T : Top K mg) : FnOk P w K mg base CX0 3 T.a_is_answer T.d_is_answer ["value"] (spFn K mg [.brw] .own v_is_answer EX0) := by
  refine fn_ok0 (N := N_is_answer) (As := List.range 1) T.F_is_answer sc_is_answer rfl (by decide) (fun cdv A outer s H vs E hr hl hio => ?_) (.inl rfl)
  have hp : PassesOwn (model P w) (A.deeper (envOfC "is_answer" (defScope s_is_answer) s.heap.objs.size T.a_is_answer cdv)) (envOfC "is_answer" (defScope s_is_answer) s.heap.objs.size T.a_is_answer cdv) (fun _ _ => False) := PassesOwn.never
  have hN := sc_is_answer.nd
  have hu : (A.deeper (envOfC "is_answer" (defScope s_is_answer) s.heap.objs.size T.a_is_answer cdv)).units + 64 < cLine := by have := hr.un; omega
  have hu0 : (A.deeper (envOfC "is_answer" (defScope s_is_answer) s.heap.objs.size T.a_is_answer cdv)).units < cLine := by have := hr.un; omega
  have hu1 : (A.deeper (envOfC "is_answer" (defScope s_is_answer) s.heap.objs.size T.a_is_answer cdv)).units + 65 < cLine := by have := hr.un; omega
  match vs, hl with
  | [x0], _ =>
  exact ⟨[.fz], (by intro i q h; cases h), (vss_one (vs_ret (ve_up (ve_and (ve_isi (T := "str") (by decide +kernel) (.ty _) (vb_slot (pv 0)) (fun h => pe_callB call_isi (by rfl) T.z_isinstance (by decide +kernel) (pa_cons h (pa_cons (pe_bltn (v := .ty "str") (by rfl) T.z_str (by decide +kernel) rfl) pa_nil)))) (ve_one (ve_cmp (op_inA hu1) f_in (vb_slot (pv 0)) (vb_ex (ve_globT (ss := [[114, 101, 109, 111, 118, 101], [107, 101, 101, 112]]) rfl T.c_ANSWERS)) (by rfl))))) rfl (by intro i q h; cases h)))⟩
def b_check_sides : Es := (sSeq (sIf (eNot (eTB (eChain dLe dLe (.ex (eC (.int 1))) (.ex (eCall fLen [.bor (.slot 0)])) (.ex (eC (.int 5)))))) (sRaise "BadSides" ["at"] [.val (eNeg (eC (.int 1)))]) sNil) (sFor (eEnum (eVar 0)) (.tup [(.name 1), (.name 2)]) (sIf (eTB (eBin dNotIn (.slot 2) (.ex (eC (.str [43, 45]))))) (sRaise "BadSides" ["at"] [.val (eVar 1)]) sNil)))
def v_check_sides : Fe := fun ds => fnEv [.brw] 3 b_check_sides ds
theorem ok_check_sides (T : Top K mg) : FnOk P w K mg base (L2N.CX P w) 3 T.a_check_sides T.d_check_sides ["sides"] (spFn K mg [.brw] .fz v_check_sides (EXW K mg)) := by
  refine fn_okX (N := N_check_sides) (As := List.range 3) T.F_check_sides sc_check_sides rfl (by decide) (fun cdv A outer s H vs E hr hl hio => ?_) (.inr rfl)
  have hp : PassesOwn (model P w) (cxOf (L2N.CX P w) P w K mg base N_check_sides "check_sides" (defScope s_check_sides) T.a_check_sides cdv A outer s H E).A (cxOf (L2N.CX P w) P w K mg base N_check_sides "check_sides" (defScope s_check_sides) T.a_check_sides cdv A outer s H E).env (cxOf (L2N.CX P w) P w K mg base N_check_sides "check_sides" (defScope s_check_sides) T.a_check_sides cdv A outer s H E).xe := L2.passes_of (X := (cxOf (L2N.CX P w) P w K mg base N_check_sides "check_sides" (defScope s_check_sides) T.a_check_sides cdv A outer s H E)) (K := fun e s2 => L2N.CX P w outer H s E e s2) (E₁ := fun e s2 => L2N.CX P w outer H s E e s2) rfl
  have tk : L2N.Takes (cxOf (L2N.CX P w) P w K mg base N_check_sides "check_sides" (defScope s_check_sides) T.a_check_sides cdv A outer s H E) (fun cls d _ H => E cls d H) := L2N.takes_of (X := (cxOf (L2N.CX P w) P w K mg base N_check_sides "check_sides" (defScope s_check_sides) T.a_check_sides cdv A outer s H E)) (E₁ := fun e s2 => L2N.CX P w outer H s E e s2) rfl rfl rfl rfl
  have hN := sc_check_sides.nd
  have hu : (A.deeper (envOfC "check_sides" (defScope s_check_sides) s.heap.objs.size T.a_check_sides cdv)).units + 64 < cLine := by have := hr.un; omega
  have hu0 : (A.deeper (envOfC "check_sides" (defScope s_check_sides) s.heap.objs.size T.a_check_sides cdv)).units < cLine := by have := hr.un; omega
  have hu1 : (A.deeper (envOfC "check_sides" (defScope s_check_sides) s.heap.objs.size T.a_check_sides cdv)).units + 65 < cLine := by have := hr.un; omega
  match vs, hl with
  | [x0], _ =>
  exact ⟨[.brw, .fz, .fz], (by intro i q h; cases h), (vss_cons (vs_if (vt_not (vt_chain op_leA op_leA f_le f_le (vb_ex ve_int) (vb_ex (ve_callB b_len c_len (by rfl) T.z_len (by decide +kernel) (va_cons (va_bor (vb_slot (pv 0))) va_nil))) (vb_ex (ve_globI rfl T.c_MOST_SIGNS)))) (vss_one (vs_raise1 (nm := "BadSides") (f := "at") rfl tk T.x_BadSides (ok_init_BadSides T) (hr.mono (by decide)) T.bi_BadSides (by rfl) (va_cons (va_val (ve_neg ve_int)) va_nil) rfl)) vss_nil) (vss_one (vs_for hp rfl (vi_enum (elts := []) (kk := 0) (pi_enumA (by rfl) T.z_enumerate (pa_one (vb_brw (pv 0) rfl)))) (vg_tup rfl (vgs_cons (vg_name hN rfl (by first | exact .inl rfl | exact .inr rfl) rfl (memB rfl)) (vgs_cons (vg_name hN rfl (by first | exact .inl rfl | exact .inr rfl) rfl (memB rfl)) vgs_nil))) (vss_one (vs_if (vt_cmp (op_notInA hu1) f_notIn (vb_slot (pv 2)) (vb_ex (ve_str (l := [43, 45]) (by decide +kernel))) (by rfl)) (vss_one (vs_raise1 (nm := "BadSides") (f := "at") rfl tk T.x_BadSides (ok_init_BadSides T) (hr.mono (by decide)) T.bi_BadSides (by rfl) (va_cons (va_val (ve_fz (pv 1) rfl)) va_nil) rfl)) vss_nil)))))⟩
def b_is_case : Es := (sSeq (sIf (eOr (eNot (eTru (.ex (eCall (fIsi "tuple") [.bor (.slot 1), .val eTy])))) (eTB (eBin dNe (.ex (eCall fLen [.bor (.slot 1)])) (.ex (eCall fLen [.bor (.slot 0)]))))) (sRet (eUp (eC (.bl false)))) sNil) (sSeq (sFor (eIt (eVar 1)) (.name 2) (sIf (eOr (eNot (eTru (.ex (eFn [.brw] v_is_whole [.bor (.slot 2)])))) (eNot (eTB (eChain dLe dLe (.ex (eC (.int 0))) (.slot 2) (.ex (eC (.int 3))))))) (sRet (eUp (eC (.bl false)))) sNil)) (sRet (eUp (eC (.bl true))))))
def v_is_case : Fe := fun ds => noexn (fnEv [.brw, .brw] 3 b_is_case ds)
theorem ok_is_case (T : Top K mg) : FnOk P w K mg base CX0 4 T.a_is_case T.d_is_case ["sides", "value"] (spFn K mg [.brw, .brw] .own v_is_case EX0) := by
  refine fn_ok0 (N := N_is_case) (As := List.range 3) T.F_is_case sc_is_case rfl (by decide) (fun cdv A outer s H vs E hr hl hio => ?_) (.inl rfl)
  have hp : PassesOwn (model P w) (A.deeper (envOfC "is_case" (defScope s_is_case) s.heap.objs.size T.a_is_case cdv)) (envOfC "is_case" (defScope s_is_case) s.heap.objs.size T.a_is_case cdv) (fun _ _ => False) := PassesOwn.never
  have hN := sc_is_case.nd
  have hu : (A.deeper (envOfC "is_case" (defScope s_is_case) s.heap.objs.size T.a_is_case cdv)).units + 64 < cLine := by have := hr.un; omega
  have hu0 : (A.deeper (envOfC "is_case" (defScope s_is_case) s.heap.objs.size T.a_is_case cdv)).units < cLine := by have := hr.un; omega
  have hu1 : (A.deeper (envOfC "is_case" (defScope s_is_case) s.heap.objs.size T.a_is_case cdv)).units + 65 < cLine := by have := hr.un; omega
  match vs, hl with
  | [x0, x1], _ =>
  exact ⟨[.fz, .fz, .fz], (by intro i q h; cases h), (vss_cons (vs_if (vt_bool (vw_or (vt_not (vt_tru (vb_ex (ve_isi (T := "tuple") (by decide +kernel) (.ty _) (vb_slot (pv 1)) (fun h => pe_callB call_isi (by rfl) T.z_isinstance (by decide +kernel) (pa_cons h (pa_cons (pe_bltn (v := .ty "tuple") (by rfl) T.z_tuple (by decide +kernel) rfl) pa_nil))))))) (vw_or1 (vt_cmp (op_neA hu) f_ne (vb_ex (ve_callB b_len c_len (by rfl) T.z_len (by decide +kernel) (va_cons (va_bor (vb_slot (pv 1))) va_nil))) (vb_ex (ve_callB b_len c_len (by rfl) T.z_len (by decide +kernel) (va_cons (va_bor (vb_slot (pv 0))) va_nil))) (nomark _))))) (vss_one (vs_ret (ve_up ve_bl) rfl (by intro i q h; cases h))) vss_nil) (vss_cons (vs_for hp rfl (vi_any (vb_brw (pv 1) rfl)) (vg_name hN rfl (by first | exact .inl rfl | exact .inr rfl) rfl (memB rfl)) (vss_one (vs_if (vt_bool (vw_or (vt_not (vt_tru (vb_ex (ve_call0 (fe := v_is_whole) (pms := [.brw]) (.inl rfl) (va_cons (va_bor (vb_slot (pv 2))) va_nil) rfl (nodupB rfl) rfl (fun h => pe_call (ok_is_whole T) (hr.mono (by decide)) (by rfl) T.m_is_whole T.F_is_whole.kp T.b_is_whole .nil pass0 h))))) (vw_or1 (vt_not (vt_chain op_leA op_leA f_le f_le (vb_ex ve_int) (vb_slot (pv 2)) (vb_ex (ve_globI rfl T.c_MOST_GRADE))))))) (vss_one (vs_ret (ve_up ve_bl) rfl (by intro i q h; cases h))) vss_nil))) (vss_one (vs_ret (ve_up ve_bl) rfl (by intro i q h; cases h)))))⟩
def b_at_least : Es := (sSeq (sFor (eZipS (eVar 0) (eVar 1) (eVar 2)) (.tup [(.name 3), (.name 4), (.name 5)]) (sSeq (sIf (eAnd (eTB (eBin dEq (.slot 3) (.ex (eC (.str [43]))))) (eTB (eBin dLt (.slot 4) (.slot 5)))) (sRet (eUp (eC (.bl false)))) sNil) (sIf (eAnd (eTB (eBin dEq (.slot 3) (.ex (eC (.str [45]))))) (eTB (eBin dGt (.slot 4) (.slot 5)))) (sRet (eUp (eC (.bl false)))) sNil))) (sRet (eUp (eC (.bl true)))))
def v_at_least : Fe := fun ds => noexn (fnEv [.brw, .brw, .brw] 6 b_at_least ds)
theorem ok_at_least (T : Top K mg) : FnOk P w K mg base CX0 3 T.a_at_least T.d_at_least ["sides", "c", "d"] (spFn K mg [.brw, .brw, .brw] .own v_at_least EX0) := by
  refine fn_ok0 (N := N_at_least) (As := List.range 6) T.F_at_least sc_at_least rfl (by decide) (fun cdv A outer s H vs E hr hl hio => ?_) (.inl rfl)
  have hp : PassesOwn (model P w) (A.deeper (envOfC "at_least" (defScope s_at_least) s.heap.objs.size T.a_at_least cdv)) (envOfC "at_least" (defScope s_at_least) s.heap.objs.size T.a_at_least cdv) (fun _ _ => False) := PassesOwn.never
  have hN := sc_at_least.nd
  have hu : (A.deeper (envOfC "at_least" (defScope s_at_least) s.heap.objs.size T.a_at_least cdv)).units + 64 < cLine := by have := hr.un; omega
  have hu0 : (A.deeper (envOfC "at_least" (defScope s_at_least) s.heap.objs.size T.a_at_least cdv)).units < cLine := by have := hr.un; omega
  have hu1 : (A.deeper (envOfC "at_least" (defScope s_at_least) s.heap.objs.size T.a_at_least cdv)).units + 65 < cLine := by have := hr.un; omega
  match vs, hl with
  | [x0, x1, x2], _ =>
  exact ⟨[.fz, .fz, .fz, .fz, .fz, .fz], (by intro i q h; cases h), (vss_cons (vs_for hp rfl (vi_zipS (elts := []) (kk := 0) (pi_zipS (by rfl) T.z_zip (pa_three (vb_brw (pv 0) rfl) (vb_brw (pv 1) rfl) (vb_brw (pv 2) rfl)))) (vg_tup rfl (vgs_cons (vg_name hN rfl (by first | exact .inl rfl | exact .inr rfl) rfl (memB rfl)) (vgs_cons (vg_name hN rfl (by first | exact .inl rfl | exact .inr rfl) rfl (memB rfl)) (vgs_cons (vg_name hN rfl (by first | exact .inl rfl | exact .inr rfl) rfl (memB rfl)) vgs_nil)))) (vss_cons (vs_if (vt_bool (vw_and (vt_cmp (op_eqA hu) f_eq (vb_slot (pv 3)) (vb_ex (ve_str (l := [43]) (by decide +kernel))) (nomark _)) (vw_and1 (vt_cmp (op_ltA hu0) f_lt (vb_slot (pv 4)) (vb_slot (pv 5)) (nomark _))))) (vss_one (vs_ret (ve_up ve_bl) rfl (by intro i q h; cases h))) vss_nil) (vss_one (vs_if (vt_bool (vw_and (vt_cmp (op_eqA hu) f_eq (vb_slot (pv 3)) (vb_ex (ve_str (l := [45]) (by decide +kernel))) (nomark _)) (vw_and1 (vt_cmp op_gtA f_gt (vb_slot (pv 4)) (vb_slot (pv 5)) (nomark _))))) (vss_one (vs_ret (ve_up ve_bl) rfl (by intro i q h; cases h))) vss_nil)))) (vss_one (vs_ret (ve_up ve_bl) rfl (by intro i q h; cases h))))⟩
def b_is_ruling : Es := (sSeq (sIf (eOr (eNot (eTru (.ex (eCall (fIsi "tuple") [.bor (.slot 1), .val eTy])))) (eTB (eBin dNe (.ex (eCall fLen [.bor (.slot 1)])) (.ex (eC (.int 2)))))) (sRet (eC (.bl false))) sNil) (sRet (eAndV (eFn [.brw, .brw] v_is_case [.bor (.slot 0), .bor (.ex (eBin dIx (.slot 1) (.ex (eC (.int 0)))))]) (eFn [.brw] v_is_answer [.bor (.ex (eBin dIx (.slot 1) (.ex (eC (.int 1)))))]))))
def v_is_ruling : Fe := fun ds => noexn (fnEv [.brw, .brw] 2 b_is_ruling ds)
theorem ok_is_ruling (T : Top K mg) : FnOk P w K mg base CX0 5 T.a_is_ruling T.d_is_ruling ["sides", "value"] (spFn K mg [.brw, .brw] .fz v_is_ruling EX0) := by
  refine fn_ok0 (N := N_is_ruling) (As := List.range 2) T.F_is_ruling sc_is_ruling rfl (by decide) (fun cdv A outer s H vs E hr hl hio => ?_) (.inr rfl)
  have hp : PassesOwn (model P w) (A.deeper (envOfC "is_ruling" (defScope s_is_ruling) s.heap.objs.size T.a_is_ruling cdv)) (envOfC "is_ruling" (defScope s_is_ruling) s.heap.objs.size T.a_is_ruling cdv) (fun _ _ => False) := PassesOwn.never
  have hN := sc_is_ruling.nd
  have hu : (A.deeper (envOfC "is_ruling" (defScope s_is_ruling) s.heap.objs.size T.a_is_ruling cdv)).units + 64 < cLine := by have := hr.un; omega
  have hu0 : (A.deeper (envOfC "is_ruling" (defScope s_is_ruling) s.heap.objs.size T.a_is_ruling cdv)).units < cLine := by have := hr.un; omega
  have hu1 : (A.deeper (envOfC "is_ruling" (defScope s_is_ruling) s.heap.objs.size T.a_is_ruling cdv)).units + 65 < cLine := by have := hr.un; omega
  match vs, hl with
  | [x0, x1], _ =>
  exact ⟨[.fz, .fz], (by intro i q h; cases h), (vss_cons (vs_if (vt_bool (vw_or (vt_not (vt_tru (vb_ex (ve_isi (T := "tuple") (by decide +kernel) (.ty _) (vb_slot (pv 1)) (fun h => pe_callB call_isi (by rfl) T.z_isinstance (by decide +kernel) (pa_cons h (pa_cons (pe_bltn (v := .ty "tuple") (by rfl) T.z_tuple (by decide +kernel) rfl) pa_nil))))))) (vw_or1 (vt_cmp (op_neA hu) f_ne (vb_ex (ve_callB b_len c_len (by rfl) T.z_len (by decide +kernel) (va_cons (va_bor (vb_slot (pv 1))) va_nil))) (vb_ex ve_int) (nomark _))))) (vss_one (vs_ret ve_bl rfl (by intro i q h; cases h))) vss_nil) (vss_one (vs_ret (ve_and (ve_coe (ve_call0 (fe := v_is_case) (pms := [.brw, .brw]) (.inl rfl) (va_cons (va_bor (vb_slot (pv 0))) (va_cons (va_bor (vb_ex (ve_ix ix_seq f_ix (vb_slot (pv 1)) (vb_ex ve_int) (fun _ _ => rfl)))) va_nil)) rfl (nodupB rfl) rfl (fun h => pe_call (ok_is_case T) (hr.mono (by decide)) (by rfl) T.m_is_case T.F_is_case.kp T.b_is_case .nil pass0 h))) (ve_one (ve_coe (ve_call0 (fe := v_is_answer) (pms := [.brw]) (.inl rfl) (va_cons (va_bor (vb_ex (ve_ix ix_seq f_ix (vb_slot (pv 1)) (vb_ex ve_int) (fun _ _ => rfl)))) va_nil) rfl (nodupB rfl) rfl (fun h => pe_call (ok_is_answer T) (hr.mono (by decide)) (by rfl) T.m_is_answer T.F_is_answer.kp T.b_is_answer .nil pass0 h))))) rfl (by intro i q h; cases h))))⟩
def b_indexes_of : Es := (sRet (eLC (eEnumT (eFld ["Book"] "rulings" (eVar 0))) [2, 3] (.tup [(.name 2), (.name 3)]) (eTB (eBin dEq (.ex (eBin dIx (.slot 3) (.ex (eC (.int 1))))) (.slot 1))) (eVar 2)))
def v_indexes_of : Fe := fun ds => noexn (fnEv [.brw, .brw] 4 b_indexes_of ds)
theorem ok_indexes_of (T : Top K mg) : FnOk P w K mg base CX0 3 T.a_indexes_of T.d_indexes_of ["book", "answer"] (spFn K mg [.brw, .brw] .own v_indexes_of EX0) := by
  refine fn_ok0 (N := N_indexes_of) (As := List.range 4) T.F_indexes_of sc_indexes_of rfl (by decide) (fun cdv A outer s H vs E hr hl hio => ?_) (.inl rfl)
  have hp : PassesOwn (model P w) (A.deeper (envOfC "indexes_of" (defScope s_indexes_of) s.heap.objs.size T.a_indexes_of cdv)) (envOfC "indexes_of" (defScope s_indexes_of) s.heap.objs.size T.a_indexes_of cdv) (fun _ _ => False) := PassesOwn.never
  have hN := sc_indexes_of.nd
  have hu : (A.deeper (envOfC "indexes_of" (defScope s_indexes_of) s.heap.objs.size T.a_indexes_of cdv)).units + 64 < cLine := by have := hr.un; omega
  have hu0 : (A.deeper (envOfC "indexes_of" (defScope s_indexes_of) s.heap.objs.size T.a_indexes_of cdv)).units < cLine := by have := hr.un; omega
  have hu1 : (A.deeper (envOfC "indexes_of" (defScope s_indexes_of) s.heap.objs.size T.a_indexes_of cdv)).units + 65 < cLine := by have := hr.un; omega
  match vs, hl with
  | [x0, x1], _ =>
  exact ⟨[.fz, .fz, .fz, .fz], (by intro i q h; cases h), (vss_one (vs_ret (ve_lc rfl hN (own := [("k", 2), ("ruling", 3)]) (vi_enumT (elts := []) (kk := 0) (pi_enumT (by rfl) T.z_enumerate (pa_one (vb_ex (ve_fld (f := "rulings") (hf_rulings T) (vb_brw (pv 0) rfl)))))) (blkOk_by (by kernel_rfl)) (allFz_ok rfl) (fun _ _ _ _ _ => (vg_tup rfl (vgs_cons (vg_name hN rfl (by first | exact .inl rfl | exact .inr rfl) rfl (memB rfl)) (vgs_cons (vg_name hN rfl (by first | exact .inl rfl | exact .inr rfl) rfl (memB rfl)) vgs_nil)))) (fun _ _ _ _ _ => (vts_one (vt_cmp (op_eqA hu) f_eq (vb_ex (ve_ix ix_seq f_ix (vb_slot (pv 3)) (vb_ex ve_int) (fun _ _ => rfl))) (vb_slot (pv 1)) (nomark _)))) (fun _ _ _ _ _ => (ve_fz (pv 2) rfl))) rfl (by intro i q h; cases h)))⟩
def b_crosses : Es := (sSeq (sAsg (.tup [(.name 3), (.name 4)]) (eBin dIx (.ex (eFld ["Book"] "rulings" (eVar 0))) (.slot 1))) (sSeq (sAsg (.tup [(.name 5), (.name 6)]) (eBin dIx (.ex (eFld ["Book"] "rulings" (eVar 0))) (.slot 2))) (sRet (eAndV (eBin dEq (.slot 4) (.ex (eC (.str [114, 101, 109, 111, 118, 101])))) (eAndV (eBin dEq (.slot 6) (.ex (eC (.str [107, 101, 101, 112])))) (eFn [.brw, .brw, .brw] v_at_least [.bor (.ex (eFld ["Book"] "sides" (eVar 0))), .bor (.slot 5), .bor (.slot 3)]))))))
def v_crosses : Fe := fun ds => noexn (fnEv [.brw, .brw, .brw] 7 b_crosses ds)
theorem ok_crosses (T : Top K mg) : FnOk P w K mg base CX0 4 T.a_crosses T.d_crosses ["book", "i", "j"] (spFn K mg [.brw, .brw, .brw] .fz v_crosses EX0) := by
  refine fn_ok0 (N := N_crosses) (As := List.range 7) T.F_crosses sc_crosses rfl (by decide) (fun cdv A outer s H vs E hr hl hio => ?_) (.inr rfl)
  have hp : PassesOwn (model P w) (A.deeper (envOfC "crosses" (defScope s_crosses) s.heap.objs.size T.a_crosses cdv)) (envOfC "crosses" (defScope s_crosses) s.heap.objs.size T.a_crosses cdv) (fun _ _ => False) := PassesOwn.never
  have hN := sc_crosses.nd
  have hu : (A.deeper (envOfC "crosses" (defScope s_crosses) s.heap.objs.size T.a_crosses cdv)).units + 64 < cLine := by have := hr.un; omega
  have hu0 : (A.deeper (envOfC "crosses" (defScope s_crosses) s.heap.objs.size T.a_crosses cdv)).units < cLine := by have := hr.un; omega
  have hu1 : (A.deeper (envOfC "crosses" (defScope s_crosses) s.heap.objs.size T.a_crosses cdv)).units + 65 < cLine := by have := hr.un; omega
  match vs, hl with
  | [x0, x1, x2], _ =>
  exact ⟨[.fz, .fz, .fz, .fz, .fz, .fz, .fz], (by intro i q h; cases h), (vss_cons (vs_asg (ve_ix ix_seq f_ix (vb_ex (ve_fld (f := "rulings") (hf_rulings T) (vb_brw (pv 0) rfl))) (vb_slot (pv 1)) (fun _ _ => rfl)) (vg_tup rfl (vgs_cons (vg_name hN rfl (by first | exact .inl rfl | exact .inr rfl) rfl (memB rfl)) (vgs_cons (vg_name hN rfl (by first | exact .inl rfl | exact .inr rfl) rfl (memB rfl)) vgs_nil)))) (vss_cons (vs_asg (ve_ix ix_seq f_ix (vb_ex (ve_fld (f := "rulings") (hf_rulings T) (vb_brw (pv 0) rfl))) (vb_slot (pv 2)) (fun _ _ => rfl)) (vg_tup rfl (vgs_cons (vg_name hN rfl (by first | exact .inl rfl | exact .inr rfl) rfl (memB rfl)) (vgs_cons (vg_name hN rfl (by first | exact .inl rfl | exact .inr rfl) rfl (memB rfl)) vgs_nil)))) (vss_one (vs_ret (ve_and (ve_cmp (op_eqA hu) f_eq (vb_slot (pv 4)) (vb_ex (ve_str (l := [114, 101, 109, 111, 118, 101]) (by decide +kernel))) (nomark _)) (ve_and (ve_cmp (op_eqA hu) f_eq (vb_slot (pv 6)) (vb_ex (ve_str (l := [107, 101, 101, 112]) (by decide +kernel))) (nomark _)) (ve_one (ve_coe (ve_call0 (fe := v_at_least) (pms := [.brw, .brw, .brw]) (.inl rfl) (va_cons (va_bor (vb_ex (ve_fld (f := "sides") (hf_sides T) (vb_brw (pv 0) rfl)))) (va_cons (va_bor (vb_slot (pv 5))) (va_cons (va_bor (vb_slot (pv 3))) va_nil))) rfl (nodupB rfl) rfl (fun h => pe_call (ok_at_least T) (hr.mono (by decide)) (by rfl) T.m_at_least T.F_at_least.kp T.b_at_least .nil pass0 h)))))) rfl (by intro i q h; cases h)))))⟩
def b_first_cross : Es := (sSeq (sFor (eIt (eFn [.brw, .brw] v_indexes_of [.bor (.slot 0), .bor (.ex (eC (.str [114, 101, 109, 111, 118, 101])))])) (.name 1) (sFor (eIt (eFn [.brw, .brw] v_indexes_of [.bor (.slot 0), .bor (.ex (eC (.str [107, 101, 101, 112])))])) (.name 2) (sIf (eTru (.ex (eFn [.brw, .brw, .brw] v_crosses [.bor (.slot 0), .bor (.slot 1), .bor (.slot 2)]))) (sRet (eUp (eTup [.val (eVar 1), .val (eVar 2)]))) sNil))) (sRet (eUp (eC .non))))
def v_first_cross : Fe := fun ds => noexn (fnEv [.brw] 3 b_first_cross ds)
theorem ok_first_cross (T : Top K mg) : FnOk P w K mg base CX0 5 T.a_first_cross T.d_first_cross ["book"] (spFn K mg [.brw] .own v_first_cross EX0) := by
  refine fn_ok0 (N := N_first_cross) (As := List.range 3) T.F_first_cross sc_first_cross rfl (by decide) (fun cdv A outer s H vs E hr hl hio => ?_) (.inl rfl)
  have hp : PassesOwn (model P w) (A.deeper (envOfC "first_cross" (defScope s_first_cross) s.heap.objs.size T.a_first_cross cdv)) (envOfC "first_cross" (defScope s_first_cross) s.heap.objs.size T.a_first_cross cdv) (fun _ _ => False) := PassesOwn.never
  have hN := sc_first_cross.nd
  have hu : (A.deeper (envOfC "first_cross" (defScope s_first_cross) s.heap.objs.size T.a_first_cross cdv)).units + 64 < cLine := by have := hr.un; omega
  have hu0 : (A.deeper (envOfC "first_cross" (defScope s_first_cross) s.heap.objs.size T.a_first_cross cdv)).units < cLine := by have := hr.un; omega
  have hu1 : (A.deeper (envOfC "first_cross" (defScope s_first_cross) s.heap.objs.size T.a_first_cross cdv)).units + 65 < cLine := by have := hr.un; omega
  match vs, hl with
  | [x0], _ =>
  exact ⟨[.fz, .fz, .fz], (by intro i q h; cases h), (vss_cons (vs_for hp rfl (vi_any (vb_ex (ve_call0 (fe := v_indexes_of) (pms := [.brw, .brw]) (.inl rfl) (va_cons (va_bor (vb_slot (pv 0))) (va_cons (va_bor (vb_ex (ve_str (l := [114, 101, 109, 111, 118, 101]) (by decide +kernel)))) va_nil)) rfl (nodupB rfl) rfl (fun h => pe_call (ok_indexes_of T) (hr.mono (by decide)) (by rfl) T.m_indexes_of T.F_indexes_of.kp T.b_indexes_of .nil pass0 h)))) (vg_name hN rfl (by first | exact .inl rfl | exact .inr rfl) rfl (memB rfl)) (vss_one (vs_for hp rfl (vi_any (vb_ex (ve_call0 (fe := v_indexes_of) (pms := [.brw, .brw]) (.inl rfl) (va_cons (va_bor (vb_slot (pv 0))) (va_cons (va_bor (vb_ex (ve_str (l := [107, 101, 101, 112]) (by decide +kernel)))) va_nil)) rfl (nodupB rfl) rfl (fun h => pe_call (ok_indexes_of T) (hr.mono (by decide)) (by rfl) T.m_indexes_of T.F_indexes_of.kp T.b_indexes_of .nil pass0 h)))) (vg_name hN rfl (by first | exact .inl rfl | exact .inr rfl) rfl (memB rfl)) (vss_one (vs_if (vt_tru (vb_ex (ve_call0 (fe := v_crosses) (pms := [.brw, .brw, .brw]) (.inr rfl) (va_cons (va_bor (vb_slot (pv 0))) (va_cons (va_bor (vb_slot (pv 1))) (va_cons (va_bor (vb_slot (pv 2))) va_nil))) rfl (nodupB rfl) rfl (fun h => pe_call (ok_crosses T) (hr.mono (by decide)) (by rfl) T.m_crosses T.F_crosses.kp T.b_crosses .nil pass0 h)))) (vss_one (vs_ret (ve_up (ve_tup (va_cons (va_val (ve_fz (pv 1) rfl)) (va_cons (va_val (ve_fz (pv 2) rfl)) va_nil)) rfl)) rfl (by intro i q h; cases h))) vss_nil))))) (vss_one (vs_ret (ve_up ve_non) rfl (by intro i q h; cases h))))⟩
def b_check_sound : Es := (sSeq (sSet 1 (eFn [.brw] v_first_cross [.bor (.slot 0)])) (sIf (eTB (eBin dNotN (.slot 1) (.ex (eC .non)))) (sRaise "Crossed" ["i", "j"] [.val (eBin dIx (.slot 1) (.ex (eC (.int 0)))), .val (eBin dIx (.slot 1) (.ex (eC (.int 1))))]) sNil))
def v_check_sound : Fe := fun ds => fnEv [.brw] 2 b_check_sound ds
theorem ok_check_sound (T : Top K mg) : FnOk P w K mg base (L2N.CX P w) 6 T.a_check_sound T.d_check_sound ["book"] (spFn K mg [.brw] .fz v_check_sound (EXW K mg)) := by
  refine fn_okX (N := N_check_sound) (As := List.range 2) T.F_check_sound sc_check_sound rfl (by decide) (fun cdv A outer s H vs E hr hl hio => ?_) (.inr rfl)
  have hp : PassesOwn (model P w) (cxOf (L2N.CX P w) P w K mg base N_check_sound "check_sound" (defScope s_check_sound) T.a_check_sound cdv A outer s H E).A (cxOf (L2N.CX P w) P w K mg base N_check_sound "check_sound" (defScope s_check_sound) T.a_check_sound cdv A outer s H E).env (cxOf (L2N.CX P w) P w K mg base N_check_sound "check_sound" (defScope s_check_sound) T.a_check_sound cdv A outer s H E).xe := L2.passes_of (X := (cxOf (L2N.CX P w) P w K mg base N_check_sound "check_sound" (defScope s_check_sound) T.a_check_sound cdv A outer s H E)) (K := fun e s2 => L2N.CX P w outer H s E e s2) (E₁ := fun e s2 => L2N.CX P w outer H s E e s2) rfl
  have tk : L2N.Takes (cxOf (L2N.CX P w) P w K mg base N_check_sound "check_sound" (defScope s_check_sound) T.a_check_sound cdv A outer s H E) (fun cls d _ H => E cls d H) := L2N.takes_of (X := (cxOf (L2N.CX P w) P w K mg base N_check_sound "check_sound" (defScope s_check_sound) T.a_check_sound cdv A outer s H E)) (E₁ := fun e s2 => L2N.CX P w outer H s E e s2) rfl rfl rfl rfl
  have hN := sc_check_sound.nd
  have hu : (A.deeper (envOfC "check_sound" (defScope s_check_sound) s.heap.objs.size T.a_check_sound cdv)).units + 64 < cLine := by have := hr.un; omega
  have hu0 : (A.deeper (envOfC "check_sound" (defScope s_check_sound) s.heap.objs.size T.a_check_sound cdv)).units < cLine := by have := hr.un; omega
  have hu1 : (A.deeper (envOfC "check_sound" (defScope s_check_sound) s.heap.objs.size T.a_check_sound cdv)).units + 65 < cLine := by have := hr.un; omega
  match vs, hl with
  | [x0], _ =>
  exact ⟨[.brw, .fz], (by intro i q h; cases h), (vss_cons (vs_set hN rfl (by first | exact .inl rfl | exact .inr rfl) (ve_coe (ve_call0 (fe := v_first_cross) (pms := [.brw]) (.inl rfl) (va_cons (va_bor (vb_slot (pv 0))) va_nil) rfl (nodupB rfl) rfl (fun h => pe_call (ok_first_cross T) (hr.mono (by decide)) (by rfl) T.m_first_cross T.F_first_cross.kp T.b_first_cross .nil pass0 h))) (.inl rfl) (ltB rfl) (memB rfl)) (vss_one (vs_if (vt_cmp op_notN f_notN (vb_slot (pv 1)) (vb_ex ve_non) (nomark _)) (vss_one (vs_raise2 (nm := "Crossed") (f := "i") (g := "j") rfl tk T.x_Crossed (ok_init_Crossed T) (hr.mono (by decide)) T.bi_Crossed (by rfl) (va_cons (va_val (ve_ix ix_seq f_ix (vb_slot (pv 1)) (vb_ex ve_int) (fun _ _ => rfl))) (va_cons (va_val (ve_ix ix_seq f_ix (vb_slot (pv 1)) (vb_ex ve_int) (fun _ _ => rfl))) va_nil)) rfl)) vss_nil)))⟩
def b_says : Es := (sSeq (sAsg (.tup [(.name 3), (.name 4)]) (eVar 1)) (sSeq (sIf (eTB (eBin dEq (.slot 4) (.ex (eC (.str [114, 101, 109, 111, 118, 101]))))) (sRet (eFn [.brw, .brw, .brw] v_at_least [.bor (.slot 0), .bor (.slot 2), .bor (.slot 3)])) sNil) (sRet (eFn [.brw, .brw, .brw] v_at_least [.bor (.slot 0), .bor (.slot 3), .bor (.slot 2)]))))
def v_says : Fe := fun ds => noexn (fnEv [.brw, .fz, .brw] 5 b_says ds)
theorem ok_says (T : Top K mg) : FnOk P w K mg base CX0 4 T.a_says T.d_says ["sides", "ruling", "case"] (spFn K mg [.brw, .fz, .brw] .own v_says EX0) := by
  refine fn_ok0 (N := N_says) (As := List.range 5) T.F_says sc_says rfl (by decide) (fun cdv A outer s H vs E hr hl hio => ?_) (.inl rfl)
  have hp : PassesOwn (model P w) (A.deeper (envOfC "says" (defScope s_says) s.heap.objs.size T.a_says cdv)) (envOfC "says" (defScope s_says) s.heap.objs.size T.a_says cdv) (fun _ _ => False) := PassesOwn.never
  have hN := sc_says.nd
  have hu : (A.deeper (envOfC "says" (defScope s_says) s.heap.objs.size T.a_says cdv)).units + 64 < cLine := by have := hr.un; omega
  have hu0 : (A.deeper (envOfC "says" (defScope s_says) s.heap.objs.size T.a_says cdv)).units < cLine := by have := hr.un; omega
  have hu1 : (A.deeper (envOfC "says" (defScope s_says) s.heap.objs.size T.a_says cdv)).units + 65 < cLine := by have := hr.un; omega
  match vs, hl with
  | [x0, x1, x2], _ =>
  exact ⟨[.fz, .fz, .fz, .fz, .fz], (by intro i q h; cases h), (vss_cons (vs_asg (ve_fz (pv 1) rfl) (vg_tup rfl (vgs_cons (vg_name hN rfl (by first | exact .inl rfl | exact .inr rfl) rfl (memB rfl)) (vgs_cons (vg_name hN rfl (by first | exact .inl rfl | exact .inr rfl) rfl (memB rfl)) vgs_nil)))) (vss_cons (vs_if (vt_cmp (op_eqA hu) f_eq (vb_slot (pv 4)) (vb_ex (ve_str (l := [114, 101, 109, 111, 118, 101]) (by decide +kernel))) (nomark _)) (vss_one (vs_ret (ve_call0 (fe := v_at_least) (pms := [.brw, .brw, .brw]) (.inl rfl) (va_cons (va_bor (vb_slot (pv 0))) (va_cons (va_bor (vb_slot (pv 2))) (va_cons (va_bor (vb_slot (pv 3))) va_nil))) rfl (nodupB rfl) rfl (fun h => pe_call (ok_at_least T) (hr.mono (by decide)) (by rfl) T.m_at_least T.F_at_least.kp T.b_at_least .nil pass0 h)) rfl (by intro i q h; cases h))) vss_nil) (vss_one (vs_ret (ve_call0 (fe := v_at_least) (pms := [.brw, .brw, .brw]) (.inl rfl) (va_cons (va_bor (vb_slot (pv 0))) (va_cons (va_bor (vb_slot (pv 3))) (va_cons (va_bor (vb_slot (pv 2))) va_nil))) rfl (nodupB rfl) rfl (fun h => pe_call (ok_at_least T) (hr.mono (by decide)) (by rfl) T.m_at_least T.F_at_least.kp T.b_at_least .nil pass0 h)) rfl (by intro i q h; cases h)))))⟩
def b_is_passed : Es := (sSeq (sAsg (.tup [(.name 2), (.name 3)]) (eBin dIx (.ex (eFld ["Book"] "rulings" (eVar 0))) (.slot 1))) (sSeq (sFor (eEnumT (eFld ["Book"] "rulings" (eVar 0))) (.tup [(.name 4), (.name 5)]) (sIf (eAnd (eTB (eBin dNe (.slot 4) (.slot 1))) (eAnd (eTB (eBin dEq (.ex (eBin dIx (.slot 5) (.ex (eC (.int 1))))) (.slot 3))) (eTru (.ex (eFn [.brw, .fz, .brw] v_says [.bor (.ex (eFld ["Book"] "sides" (eVar 0))), .val (eVar 5), .bor (.slot 2)]))))) (sIf (eOr (eTB (eBin dNe (.ex (eBin dIx (.slot 5) (.ex (eC (.int 0))))) (.slot 2))) (eTB (eBin dLt (.slot 4) (.slot 1)))) (sRet (eUp (eC (.bl true)))) sNil) sNil)) (sRet (eUp (eC (.bl false))))))
def v_is_passed : Fe := fun ds => noexn (fnEv [.brw, .brw] 6 b_is_passed ds)
theorem ok_is_passed (T : Top K mg) : FnOk P w K mg base CX0 5 T.a_is_passed T.d_is_passed ["book", "k"] (spFn K mg [.brw, .brw] .own v_is_passed EX0) := by
  refine fn_ok0 (N := N_is_passed) (As := List.range 6) T.F_is_passed sc_is_passed rfl (by decide) (fun cdv A outer s H vs E hr hl hio => ?_) (.inl rfl)
  have hp : PassesOwn (model P w) (A.deeper (envOfC "is_passed" (defScope s_is_passed) s.heap.objs.size T.a_is_passed cdv)) (envOfC "is_passed" (defScope s_is_passed) s.heap.objs.size T.a_is_passed cdv) (fun _ _ => False) := PassesOwn.never
  have hN := sc_is_passed.nd
  have hu : (A.deeper (envOfC "is_passed" (defScope s_is_passed) s.heap.objs.size T.a_is_passed cdv)).units + 64 < cLine := by have := hr.un; omega
  have hu0 : (A.deeper (envOfC "is_passed" (defScope s_is_passed) s.heap.objs.size T.a_is_passed cdv)).units < cLine := by have := hr.un; omega
  have hu1 : (A.deeper (envOfC "is_passed" (defScope s_is_passed) s.heap.objs.size T.a_is_passed cdv)).units + 65 < cLine := by have := hr.un; omega
  match vs, hl with
  | [x0, x1], _ =>
  exact ⟨[.fz, .fz, .fz, .fz, .fz, .fz], (by intro i q h; cases h), (vss_cons (vs_asg (ve_ix ix_seq f_ix (vb_ex (ve_fld (f := "rulings") (hf_rulings T) (vb_brw (pv 0) rfl))) (vb_slot (pv 1)) (fun _ _ => rfl)) (vg_tup rfl (vgs_cons (vg_name hN rfl (by first | exact .inl rfl | exact .inr rfl) rfl (memB rfl)) (vgs_cons (vg_name hN rfl (by first | exact .inl rfl | exact .inr rfl) rfl (memB rfl)) vgs_nil)))) (vss_cons (vs_for hp rfl (vi_enumT (elts := []) (kk := 0) (pi_enumT (by rfl) T.z_enumerate (pa_one (vb_ex (ve_fld (f := "rulings") (hf_rulings T) (vb_brw (pv 0) rfl)))))) (vg_tup rfl (vgs_cons (vg_name hN rfl (by first | exact .inl rfl | exact .inr rfl) rfl (memB rfl)) (vgs_cons (vg_name hN rfl (by first | exact .inl rfl | exact .inr rfl) rfl (memB rfl)) vgs_nil))) (vss_one (vs_if (vt_bool (vw_and (vt_cmp (op_neA hu) f_ne (vb_slot (pv 4)) (vb_slot (pv 1)) (nomark _)) (vw_and (vt_cmp (op_eqA hu) f_eq (vb_ex (ve_ix ix_seq f_ix (vb_slot (pv 5)) (vb_ex ve_int) (fun _ _ => rfl))) (vb_slot (pv 3)) (nomark _)) (vw_and1 (vt_tru (vb_ex (ve_call0 (fe := v_says) (pms := [.brw, .fz, .brw]) (.inl rfl) (va_cons (va_bor (vb_ex (ve_fld (f := "sides") (hf_sides T) (vb_brw (pv 0) rfl)))) (va_cons (va_val (ve_fz (pv 5) rfl)) (va_cons (va_bor (vb_slot (pv 2))) va_nil))) rfl (nodupB rfl) rfl (fun h => pe_call (ok_says T) (hr.mono (by decide)) (by rfl) T.m_says T.F_says.kp T.b_says .nil pass0 h)))))))) (vss_one (vs_if (vt_bool (vw_or (vt_cmp (op_neA hu) f_ne (vb_ex (ve_ix ix_seq f_ix (vb_slot (pv 5)) (vb_ex ve_int) (fun _ _ => rfl))) (vb_slot (pv 2)) (nomark _)) (vw_or1 (vt_cmp (op_ltA hu0) f_lt (vb_slot (pv 4)) (vb_slot (pv 1)) (nomark _))))) (vss_one (vs_ret (ve_up ve_bl) rfl (by intro i q h; cases h))) vss_nil)) vss_nil))) (vss_one (vs_ret (ve_up ve_bl) rfl (by intro i q h; cases h)))))⟩
def b_Book : Es := (sSeq (sExpr (eFn [.brw] v_check_sides [.bor (.slot 1)])) (sSeq (sIf (eTB (eBin dGt (.ex (eCall fLen [.bor (.slot 2)])) (.ex (eC (.int 30))))) (sRaise "BadRuling" ["at"] [.val (eNeg (eC (.int 1)))]) sNil) (sSeq (sFor (eEnum (eVar 2)) (.tup [(.name 3), (.name 4)]) (sIf (eNot (eTru (.ex (eFn [.brw, .brw] v_is_ruling [.bor (.slot 1), .bor (.slot 4)])))) (sRaise "BadRuling" ["at"] [.val (eVar 3)]) sNil)) (sSeq (sSetF ["Book"] 0 "sides" (eVar 1)) (sSetF ["Book"] 0 "rulings" (eCall fTuple [.bor (.slot 2)]))))))
def v_Book : Fe := fun ds => fnEv [.io, .fz, .brw] 5 b_Book ds
theorem ok_Book (T : Top K mg) : FnOk P w K mg base (L2N.CX P w) 6 T.a_Book T.d_Book ["self", "sides", "rulings"] (spFn K mg [.io, .fz, .brw] .fz v_Book (EXW K mg)) := by
  refine fn_okX (N := N_Book) (As := List.range 5) T.F_Book sc_Book rfl (by decide) (fun cdv A outer s H vs E hr hl hio => ?_) (.inr rfl)
  have hp : PassesOwn (model P w) (cxOf (L2N.CX P w) P w K mg base N_Book "Book.__init__" (defScope s_Book) T.a_Book cdv A outer s H E).A (cxOf (L2N.CX P w) P w K mg base N_Book "Book.__init__" (defScope s_Book) T.a_Book cdv A outer s H E).env (cxOf (L2N.CX P w) P w K mg base N_Book "Book.__init__" (defScope s_Book) T.a_Book cdv A outer s H E).xe := L2.passes_of (X := (cxOf (L2N.CX P w) P w K mg base N_Book "Book.__init__" (defScope s_Book) T.a_Book cdv A outer s H E)) (K := fun e s2 => L2N.CX P w outer H s E e s2) (E₁ := fun e s2 => L2N.CX P w outer H s E e s2) rfl
  have tk : L2N.Takes (cxOf (L2N.CX P w) P w K mg base N_Book "Book.__init__" (defScope s_Book) T.a_Book cdv A outer s H E) (fun cls d _ H => E cls d H) := L2N.takes_of (X := (cxOf (L2N.CX P w) P w K mg base N_Book "Book.__init__" (defScope s_Book) T.a_Book cdv A outer s H E)) (E₁ := fun e s2 => L2N.CX P w outer H s E e s2) rfl rfl rfl rfl
  have hN := sc_Book.nd
  have hu : (A.deeper (envOfC "Book.__init__" (defScope s_Book) s.heap.objs.size T.a_Book cdv)).units + 64 < cLine := by have := hr.un; omega
  have hu0 : (A.deeper (envOfC "Book.__init__" (defScope s_Book) s.heap.objs.size T.a_Book cdv)).units < cLine := by have := hr.un; omega
  have hu1 : (A.deeper (envOfC "Book.__init__" (defScope s_Book) s.heap.objs.size T.a_Book cdv)).units + 65 < cLine := by have := hr.un; omega
  match vs, hl with
  | [x0, x1, x2], _ =>
  obtain ⟨p0, rfl⟩ := hio 0 x0 rfl rfl
  exact ⟨[.io p0, .fz, .brw, .fz, .fz], (by intro i q h; simp [io0, SC.loop] at h; rw [h.1, h.2]; rfl), (vss_cons (vs_expr (ve_callX (fe := v_check_sides) (pms := [.brw]) (.inr rfl) (va_cons (va_bor (vb_slot (pv 1))) va_nil) rfl (nodupB rfl) rfl (fun h => pe_callS (ok_check_sides T) (hr.mono (by decide)) (by rfl) T.m_check_sides T.F_check_sides.kp T.b_check_sides (fun σ => L2N.passAt tk σ) h))) (vss_cons (vs_if (vt_cmp op_gtA f_gt (vb_ex (ve_callB b_len c_len (by rfl) T.z_len (by decide +kernel) (va_cons (va_bor (vb_slot (pv 2))) va_nil))) (vb_ex (ve_globI rfl T.c_MOST_RULINGS)) (nomark _)) (vss_one (vs_raise1 (nm := "BadRuling") (f := "at") rfl tk T.x_BadRuling (ok_init_BadRuling T) (hr.mono (by decide)) T.bi_BadRuling (by rfl) (va_cons (va_val (ve_neg ve_int)) va_nil) rfl)) vss_nil) (vss_cons (vs_for hp rfl (vi_enum (elts := []) (kk := 0) (pi_enumA (by rfl) T.z_enumerate (pa_one (vb_brw (pv 2) rfl)))) (vg_tup rfl (vgs_cons (vg_name hN rfl (by first | exact .inl rfl | exact .inr rfl) rfl (memB rfl)) (vgs_cons (vg_name hN rfl (by first | exact .inl rfl | exact .inr rfl) rfl (memB rfl)) vgs_nil))) (vss_one (vs_if (vt_not (vt_tru (vb_ex (ve_call0 (fe := v_is_ruling) (pms := [.brw, .brw]) (.inr rfl) (va_cons (va_bor (vb_slot (pv 1))) (va_cons (va_bor (vb_slot (pv 4))) va_nil)) rfl (nodupB rfl) rfl (fun h => pe_call (ok_is_ruling T) (hr.mono (by decide)) (by rfl) T.m_is_ruling T.F_is_ruling.kp T.b_is_ruling .nil pass0 h))))) (vss_one (vs_raise1 (nm := "BadRuling") (f := "at") rfl tk T.x_BadRuling (ok_init_BadRuling T) (hr.mono (by decide)) T.bi_BadRuling (by rfl) (va_cons (va_val (ve_fz (pv 3) rfl)) va_nil) rfl)) vss_nil))) (vss_cons (vs_setF (f := "sides") (hf_sides T) (pv 0) (ve_fz (pv 1) rfl) rfl rfl) (vss_one (vs_setF (f := "rulings") (hf_rulings T) (pv 0) (ve_callTy call_tuple_of c_tuple (by rfl) T.z_tuple (by decide +kernel) (va_cons (va_bor (vb_slot (pv 2))) va_nil)) rfl rfl))))))⟩
def b_least_book : Es := (sSeq (sExpr (eFn [.brw] v_check_sound [.bor (.slot 0)])) (sSeq (sSet 1 (eLC (eEnumT (eFld ["Book"] "rulings" (eVar 0))) [2, 3] (.tup [(.name 2), (.name 3)]) (eNot (eTru (.ex (eFn [.brw, .brw] v_is_passed [.bor (.slot 0), .bor (.slot 2)])))) (eVar 3))) (sRet (eMake "Book" [.fz, .brw] v_Book [.val (eFld ["Book"] "sides" (eVar 0)), .bor (.slot 1)]))))
def v_least_book : Fe := fun ds => fnEv [.brw] 4 b_least_book ds
theorem ok_least_book (T : Top K mg) : FnOk P w K mg base (L2N.CX P w) 8 T.a_least_book T.d_least_book ["book"] (spFn K mg [.brw] .own v_least_book (EXW K mg)) := by
  refine fn_okX (N := N_least_book) (As := List.range 4) T.F_least_book sc_least_book rfl (by decide) (fun cdv A outer s H vs E hr hl hio => ?_) (.inl rfl)
  have hp : PassesOwn (model P w) (cxOf (L2N.CX P w) P w K mg base N_least_book "least_book" (defScope s_least_book) T.a_least_book cdv A outer s H E).A (cxOf (L2N.CX P w) P w K mg base N_least_book "least_book" (defScope s_least_book) T.a_least_book cdv A outer s H E).env (cxOf (L2N.CX P w) P w K mg base N_least_book "least_book" (defScope s_least_book) T.a_least_book cdv A outer s H E).xe := L2.passes_of (X := (cxOf (L2N.CX P w) P w K mg base N_least_book "least_book" (defScope s_least_book) T.a_least_book cdv A outer s H E)) (K := fun e s2 => L2N.CX P w outer H s E e s2) (E₁ := fun e s2 => L2N.CX P w outer H s E e s2) rfl
  have tk : L2N.Takes (cxOf (L2N.CX P w) P w K mg base N_least_book "least_book" (defScope s_least_book) T.a_least_book cdv A outer s H E) (fun cls d _ H => E cls d H) := L2N.takes_of (X := (cxOf (L2N.CX P w) P w K mg base N_least_book "least_book" (defScope s_least_book) T.a_least_book cdv A outer s H E)) (E₁ := fun e s2 => L2N.CX P w outer H s E e s2) rfl rfl rfl rfl
  have hN := sc_least_book.nd
  have hu : (A.deeper (envOfC "least_book" (defScope s_least_book) s.heap.objs.size T.a_least_book cdv)).units + 64 < cLine := by have := hr.un; omega
  have hu0 : (A.deeper (envOfC "least_book" (defScope s_least_book) s.heap.objs.size T.a_least_book cdv)).units < cLine := by have := hr.un; omega
  have hu1 : (A.deeper (envOfC "least_book" (defScope s_least_book) s.heap.objs.size T.a_least_book cdv)).units + 65 < cLine := by have := hr.un; omega
  match vs, hl with
  | [x0], _ =>
  exact ⟨[.fz, .fz, .fz, .fz], (by intro i q h; cases h), (vss_cons (vs_expr (ve_callX (fe := v_check_sound) (pms := [.brw]) (.inr rfl) (va_cons (va_bor (vb_slot (pv 0))) va_nil) rfl (nodupB rfl) rfl (fun h => pe_callS (ok_check_sound T) (hr.mono (by decide)) (by rfl) T.m_check_sound T.F_check_sound.kp T.b_check_sound (fun σ => L2N.passAt tk σ) h))) (vss_cons (vs_setLc (m := .fz) rfl hN rfl rfl (sw_true rfl rfl rfl (by decide +kernel)) (own := [("k", 2), ("ruling", 3)]) (vi_enumT (elts := []) (kk := 0) (pi_enumT (by rfl) T.z_enumerate (pa_one (vb_ex (ve_fld (f := "rulings") (hf_rulings T) (vb_brw (pv 0) rfl)))))) (blkOk_by (by kernel_rfl)) (allFz_ok rfl) (fun _ _ _ _ _ => (vg_tup rfl (vgs_cons (vg_name hN rfl (by first | exact .inl rfl | exact .inr rfl) rfl (memB rfl)) (vgs_cons (vg_name hN rfl (by first | exact .inl rfl | exact .inr rfl) rfl (memB rfl)) vgs_nil)))) (fun _ _ _ _ _ => (vts_one (vt_not (vt_tru (vb_ex (ve_call0 (fe := v_is_passed) (pms := [.brw, .brw]) (.inl rfl) (va_cons (va_bor (vb_slot (pv 0))) (va_cons (va_bor (vb_slot (pv 2))) va_nil)) rfl (nodupB rfl) rfl (fun h => pe_call (ok_is_passed T) (hr.mono (by decide)) (by rfl) T.m_is_passed T.F_is_passed.kp T.b_is_passed .nil pass0 h))))))) (fun _ _ _ _ _ => (ve_fz (pv 3) rfl)) (.inr rfl) (ltB rfl) (memB rfl)) (vss_one (vs_ret (ve_makeX (fe := v_Book) (pms := [.fz, .brw]) (nm := "Book") T.g_Book (va_cons (va_val (ve_fld (f := "sides") (hf_sides T) (vb_brw (pv 0) rfl))) (va_cons (va_bor (vb_slot (pv 1))) va_nil)) rfl rfl rfl (fun h => pe_mk T.k_Book (ok_Book T) (hr.mono (by decide)) (by rfl) T.g_Book T.b_Book (fun σ => L2N.passAt tk σ) h)) rfl (by intro i q h; cases h)))))⟩
def b__law_feed : Es := (sRet (eLst [.val (eCall fList [.bor (.slot 0)]), .val (eC (.int 0)), .val (eC (.int 0)), .val (eC (.int 1))]))
def v__law_feed : Fe := fun ds => noexn (fnEv [.brw] 1 b__law_feed ds)
theorem ok__law_feed (T : Top K mg) : FnOk P w K mg base CX0 3 T.a__law_feed T.d__law_feed ["script"] (spFn K mg [.brw] .own v__law_feed EX0) := by
  refine fn_ok0 (N := N__law_feed) (As := List.range 1) T.F__law_feed sc__law_feed rfl (by decide) (fun cdv A outer s H vs E hr hl hio => ?_) (.inl rfl)
  have hp : PassesOwn (model P w) (A.deeper (envOfC "_law_feed" (defScope s__law_feed) s.heap.objs.size T.a__law_feed cdv)) (envOfC "_law_feed" (defScope s__law_feed) s.heap.objs.size T.a__law_feed cdv) (fun _ _ => False) := PassesOwn.never
  have hN := sc__law_feed.nd
  have hu : (A.deeper (envOfC "_law_feed" (defScope s__law_feed) s.heap.objs.size T.a__law_feed cdv)).units + 64 < cLine := by have := hr.un; omega
  have hu0 : (A.deeper (envOfC "_law_feed" (defScope s__law_feed) s.heap.objs.size T.a__law_feed cdv)).units < cLine := by have := hr.un; omega
  have hu1 : (A.deeper (envOfC "_law_feed" (defScope s__law_feed) s.heap.objs.size T.a__law_feed cdv)).units + 65 < cLine := by have := hr.un; omega
  match vs, hl with
  | [x0], _ =>
  exact ⟨[.fz], (by intro i q h; cases h), (vss_one (vs_ret (ve_lst (va_cons (va_val (ve_coe (ve_callTy call_list_of c_list (by rfl) T.z_list (by decide +kernel) (va_cons (va_bor (vb_slot (pv 0))) va_nil)))) (va_cons (va_val ve_int) (va_cons (va_val ve_int) (va_cons (va_val ve_int) va_nil)))) rfl) rfl (by intro i q h; cases h)))⟩
def b__law_draw : Es := (sSeq (sIf (eAnd (eTB (eBin dEq (.ex (eBin dIx (.slot 0) (.ex (eC (.int 2))))) (.ex (eC (.int 0))))) (eTB (eBin dLt (.ex (eBin dIx (.slot 0) (.ex (eC (.int 1))))) (.ex (eCall fLen [.bor (.ex (eBin dIx (.slot 0) (.ex (eC (.int 0)))))]))))) (sSeq (sSet 2 (eCall fAbs [.bor (.ex (eCall fInt [.bor (.ex (eBin dIx (.ex (eBin dIx (.slot 0) (.ex (eC (.int 0))))) (.ex (eBin dIx (.slot 0) (.ex (eC (.int 1)))))))]))])) (sSeq (sAugIx 0 (fun i j => i + j) (eC (.int 1)) (eC (.int 1))) (sIf (eTB (eBin dGe (.slot 2) (.ex (eBin dPow (.ex (eC (.int 10))) (.ex (eC (.int 18))))))) (sSetIx 0 (eC (.int 2)) (eVar 2)) (sSetIx 0 (eC (.int 3)) (eBin dMod (.ex (eCall fInt [.bor (.ex (eBin dAdd (.ex (eBin dAdd (.ex (eBin dMul (.ex (eBin dIx (.slot 0) (.ex (eC (.int 3))))) (.ex (eC (.int 48271))))) (.ex (eBin dMul (.slot 2) (.ex (eC (.int 69621))))))) (.ex (eBin dIx (.slot 0) (.ex (eC (.int 1)))))))])) (.ex (eC (.int 2147483647)))))))) sNil) (sSeq (sIf (eTB (eBin dGt (.ex (eBin dIx (.slot 0) (.ex (eC (.int 2))))) (.ex (eC (.int 0))))) (sSeq (sSet 3 (eBin dMod (.ex (eCall fInt [.bor (.ex (eBin dIx (.slot 0) (.ex (eC (.int 2)))))])) (.slot 1))) (sSeq (sSetIx 0 (eC (.int 2)) (eBin dFdiv (.ex (eBin dIx (.slot 0) (.ex (eC (.int 2))))) (.slot 1))) (sRet (eVar 3)))) sNil) (sSeq (sSetIx 0 (eC (.int 3)) (eBin dMod (.ex (eCall fInt [.bor (.ex (eBin dAdd (.ex (eBin dMul (.ex (eBin dIx (.slot 0) (.ex (eC (.int 3))))) (.ex (eC (.int 16807))))) (.ex (eC (.int 12345)))))])) (.ex (eC (.int 2147483647))))) (sSeq (sSet 4 (eBin dMod (.ex (eCall fInt [.bor (.ex (eBin dAdd (.ex (eBin dMul (.ex (eBin dIx (.slot 0) (.ex (eC (.int 3))))) (.ex (eBin dIx (.slot 0) (.ex (eC (.int 3))))))) (.ex (eBin dIx (.slot 0) (.ex (eC (.int 3)))))))])) (.ex (eC (.int 2147483629))))) (sRet (eBin dMod (.ex (eBin dFdiv (.slot 4) (.ex (eC (.int 11))))) (.slot 1)))))))
def v__law_draw : Fe := fun ds => noexn (fnEv [.io, .brw] 5 b__law_draw ds)
theorem ok__law_draw (T : Top K mg) : FnOk P w K mg base CX0 3 T.a__law_draw T.d__law_draw ["feed", "many"] (spFn K mg [.io, .brw] .fz v__law_draw EX0) := by
  refine fn_ok0 (N := N__law_draw) (As := List.range 5) T.F__law_draw sc__law_draw rfl (by decide) (fun cdv A outer s H vs E hr hl hio => ?_) (.inr rfl)
  have hp : PassesOwn (model P w) (A.deeper (envOfC "_law_draw" (defScope s__law_draw) s.heap.objs.size T.a__law_draw cdv)) (envOfC "_law_draw" (defScope s__law_draw) s.heap.objs.size T.a__law_draw cdv) (fun _ _ => False) := PassesOwn.never
  have hN := sc__law_draw.nd
  have hu : (A.deeper (envOfC "_law_draw" (defScope s__law_draw) s.heap.objs.size T.a__law_draw cdv)).units + 64 < cLine := by have := hr.un; omega
  have hu0 : (A.deeper (envOfC "_law_draw" (defScope s__law_draw) s.heap.objs.size T.a__law_draw cdv)).units < cLine := by have := hr.un; omega
  have hu1 : (A.deeper (envOfC "_law_draw" (defScope s__law_draw) s.heap.objs.size T.a__law_draw cdv)).units + 65 < cLine := by have := hr.un; omega
  match vs, hl with
  | [x0, x1], _ =>
  obtain ⟨p0, rfl⟩ := hio 0 x0 rfl rfl
  exact ⟨[.io p0, .fz, .fz, .fz, .fz], (by intro i q h; simp [io0, SC.loop] at h; rw [h.1, h.2]; rfl), (vss_cons (vs_if (vt_bool (vw_and (vt_cmp (op_eqA hu) f_eq (vb_ex (ve_ix ix_seq f_ix (vb_slot (pv 0)) (vb_ex ve_int) (fun _ _ => rfl))) (vb_ex ve_int) (nomark _)) (vw_and1 (vt_cmp (op_ltA hu0) f_lt (vb_ex (ve_ix ix_seq f_ix (vb_slot (pv 0)) (vb_ex ve_int) (fun _ _ => rfl))) (vb_ex (ve_callB b_len c_len (by rfl) T.z_len (by decide +kernel) (va_cons (va_bor (vb_ex (ve_ix ix_seq f_ix (vb_slot (pv 0)) (vb_ex ve_int) (fun _ _ => rfl)))) va_nil))) (nomark _))))) (vss_cons (vs_set hN rfl (by first | exact .inl rfl | exact .inr rfl) (ve_callB call_abs c_abs (by rfl) T.z_abs (by decide +kernel) (va_cons (va_bor (vb_ex (ve_callTy call_int1 c_int (by rfl) T.z_int (by decide +kernel) (va_cons (va_bor (vb_ex (ve_ix ix_seq f_ix (vb_ex (ve_ix ix_seq f_ix (vb_slot (pv 0)) (vb_ex ve_int) (fun _ _ => rfl))) (vb_ex (ve_ix ix_seq f_ix (vb_slot (pv 0)) (vb_ex ve_int) (fun _ _ => rfl))) (fun _ _ => rfl)))) va_nil)))) va_nil)) (.inl rfl) (ltB rfl) (memB rfl)) (vss_cons (vs_augIx (ps_augS (pv 0) ve_int pg_list ve_int ip_add set_list) rfl rfl) (vss_one (vs_if (vt_cmp op_geA f_ge (vb_slot (pv 2)) (vb_ex (ve_bin op_pow f_pow (vb_ex ve_int) (vb_ex ve_int))) (nomark _)) (vss_one (vs_setIx (ve_fz (pv 2) rfl) (pg_sub (pv 0) ve_int set_list) rfl rfl)) (vss_one (vs_setIx (ve_bin op_modN f_mod (vb_ex (ve_callTy call_int1 c_int (by rfl) T.z_int (by decide +kernel) (va_cons (va_bor (vb_ex (ve_bin op_addA f_add (vb_ex (ve_bin op_addA f_add (vb_ex (ve_bin op_mulA f_mul (vb_ex (ve_ix ix_seq f_ix (vb_slot (pv 0)) (vb_ex ve_int) (fun _ _ => rfl))) (vb_ex ve_int))) (vb_ex (ve_bin op_mulA f_mul (vb_slot (pv 2)) (vb_ex ve_int))))) (vb_ex (ve_ix ix_seq f_ix (vb_slot (pv 0)) (vb_ex ve_int) (fun _ _ => rfl)))))) va_nil))) (vb_ex ve_int)) (pg_sub (pv 0) ve_int set_list) rfl rfl)))))) vss_nil) (vss_cons (vs_if (vt_cmp op_gtA f_gt (vb_ex (ve_ix ix_seq f_ix (vb_slot (pv 0)) (vb_ex ve_int) (fun _ _ => rfl))) (vb_ex ve_int) (nomark _)) (vss_cons (vs_set hN rfl (by first | exact .inl rfl | exact .inr rfl) (ve_bin op_modN f_mod (vb_ex (ve_callTy call_int1 c_int (by rfl) T.z_int (by decide +kernel) (va_cons (va_bor (vb_ex (ve_ix ix_seq f_ix (vb_slot (pv 0)) (vb_ex ve_int) (fun _ _ => rfl)))) va_nil))) (vb_slot (pv 1))) (.inl rfl) (ltB rfl) (memB rfl)) (vss_cons (vs_setIx (ve_bin op_fdivN f_fdiv (vb_ex (ve_ix ix_seq f_ix (vb_slot (pv 0)) (vb_ex ve_int) (fun _ _ => rfl))) (vb_slot (pv 1))) (pg_sub (pv 0) ve_int set_list) rfl rfl) (vss_one (vs_ret (ve_fz (pv 3) rfl) rfl (by intro i q h; simp [io0, SC.loop] at h; rw [h.1, h.2]; rfl))))) vss_nil) (vss_cons (vs_setIx (ve_bin op_modN f_mod (vb_ex (ve_callTy call_int1 c_int (by rfl) T.z_int (by decide +kernel) (va_cons (va_bor (vb_ex (ve_bin op_addA f_add (vb_ex (ve_bin op_mulA f_mul (vb_ex (ve_ix ix_seq f_ix (vb_slot (pv 0)) (vb_ex ve_int) (fun _ _ => rfl))) (vb_ex ve_int))) (vb_ex ve_int)))) va_nil))) (vb_ex ve_int)) (pg_sub (pv 0) ve_int set_list) rfl rfl) (vss_cons (vs_set hN rfl (by first | exact .inl rfl | exact .inr rfl) (ve_bin op_modN f_mod (vb_ex (ve_callTy call_int1 c_int (by rfl) T.z_int (by decide +kernel) (va_cons (va_bor (vb_ex (ve_bin op_addA f_add (vb_ex (ve_bin op_mulA f_mul (vb_ex (ve_ix ix_seq f_ix (vb_slot (pv 0)) (vb_ex ve_int) (fun _ _ => rfl))) (vb_ex (ve_ix ix_seq f_ix (vb_slot (pv 0)) (vb_ex ve_int) (fun _ _ => rfl))))) (vb_ex (ve_ix ix_seq f_ix (vb_slot (pv 0)) (vb_ex ve_int) (fun _ _ => rfl)))))) va_nil))) (vb_ex ve_int)) (.inl rfl) (ltB rfl) (memB rfl)) (vss_one (vs_ret (ve_bin op_modN f_mod (vb_ex (ve_bin op_fdivN f_fdiv (vb_slot (pv 4)) (vb_ex ve_int))) (vb_slot (pv 1))) rfl (by intro i q h; simp [io0, SC.loop] at h; rw [h.1, h.2]; rfl)))))))⟩
def b__law_sides : Es := (sRet (eCall (fJoin []) [.bor (.ex (eLC (eRng [.val (eBin dAdd (.ex (eC (.int 1))) (.ex (eFn [.io, .brw] v__law_draw [.io 0, .bor (.slot 1)])))]) [2] (.name 2) tYesE (eBin dIx (.ex (eC (.str [43, 45]))) (.ex (eFn [.io, .brw] v__law_draw [.io 0, .bor (.ex (eC (.int 2)))])))))]))
def v__law_sides : Fe := fun ds => noexn (fnEv [.io, .brw] 3 b__law_sides ds)
theorem ok__law_sides (T : Top K mg) : FnOk P w K mg base CX0 4 T.a__law_sides T.d__law_sides ["feed", "most"] (spFn K mg [.io, .brw] .fz v__law_sides EX0) := by
  refine fn_ok0 (N := N__law_sides) (As := List.range 3) T.F__law_sides sc__law_sides rfl (by decide) (fun cdv A outer s H vs E hr hl hio => ?_) (.inr rfl)
  have hp : PassesOwn (model P w) (A.deeper (envOfC "_law_sides" (defScope s__law_sides) s.heap.objs.size T.a__law_sides cdv)) (envOfC "_law_sides" (defScope s__law_sides) s.heap.objs.size T.a__law_sides cdv) (fun _ _ => False) := PassesOwn.never
  have hN := sc__law_sides.nd
  have hu : (A.deeper (envOfC "_law_sides" (defScope s__law_sides) s.heap.objs.size T.a__law_sides cdv)).units + 64 < cLine := by have := hr.un; omega
  have hu0 : (A.deeper (envOfC "_law_sides" (defScope s__law_sides) s.heap.objs.size T.a__law_sides cdv)).units < cLine := by have := hr.un; omega
  have hu1 : (A.deeper (envOfC "_law_sides" (defScope s__law_sides) s.heap.objs.size T.a__law_sides cdv)).units + 65 < cLine := by have := hr.un; omega
  match vs, hl with
  | [x0, x1], _ =>
  obtain ⟨p0, rfl⟩ := hio 0 x0 rfl rfl
  exact ⟨[.io p0, .fz, .fz], (by intro i q h; simp [io0, SC.loop] at h; rw [h.1, h.2]; rfl), (vss_one (vs_ret (ve_join (sep := []) (by decide +kernel) (va_cons (va_bor (vb_ex (ve_lc rfl hN (own := [("k", 2)]) (vi_rng1 (by rfl) T.z_range (va_cons (va_val (ve_coe (ve_bin op_addA f_add (vb_ex ve_int) (vb_ex (ve_call0 (fe := v__law_draw) (pms := [.io, .brw]) (.inr rfl) (va_cons (va_io (pv 0)) (va_cons (va_bor (vb_slot (pv 1))) va_nil)) rfl (nodupB rfl) rfl (fun h => pe_call (ok__law_draw T) (hr.mono (by decide)) (by rfl) T.m__law_draw T.F__law_draw.kp T.b__law_draw .nil pass0 h)))))) va_nil)) (blkOk_by (by kernel_rfl)) (allFz_ok rfl) (fun _ _ _ _ _ => (vg_name hN rfl (by first | exact .inl rfl | exact .inr rfl) rfl (memB rfl))) (fun _ _ _ _ _ => vts_nil) (fun _ _ _ _ _ => (ve_ix ix_seq f_ix (vb_ex (ve_str (l := [43, 45]) (by decide +kernel))) (vb_ex (ve_call0 (fe := v__law_draw) (pms := [.io, .brw]) (.inr rfl) (va_cons (va_io (pv 0)) (va_cons (va_bor (vb_ex ve_int)) va_nil)) rfl (nodupB rfl) rfl (fun h => pe_call (ok__law_draw T) (hr.mono (by decide)) (by rfl) T.m__law_draw T.F__law_draw.kp T.b__law_draw .nil pass0 h))) (fun _ _ => rfl)))))) va_nil) (fun h => pe_bm PySem.F.plainAttrs_str PySem.F.slot_str_join PySem.F.type_str_join mt_join pe_str h)) rfl (by intro i q h; simp [io0, SC.loop] at h; rw [h.1, h.2]; rfl)))⟩
def b__law_case : Es := (sRet (eCall fTuple [.bor (.ex (eLC (eIt (eVar 1)) [2] (.name 2) tYesE (eFn [.io, .brw] v__law_draw [.io 0, .bor (.ex (eC (.int 4)))])))]))
def v__law_case : Fe := fun ds => noexn (fnEv [.io, .brw] 3 b__law_case ds)
theorem ok__law_case (T : Top K mg) : FnOk P w K mg base CX0 4 T.a__law_case T.d__law_case ["feed", "sides"] (spFn K mg [.io, .brw] .fz v__law_case EX0) := by
  refine fn_ok0 (N := N__law_case) (As := List.range 3) T.F__law_case sc__law_case rfl (by decide) (fun cdv A outer s H vs E hr hl hio => ?_) (.inr rfl)
  have hp : PassesOwn (model P w) (A.deeper (envOfC "_law_case" (defScope s__law_case) s.heap.objs.size T.a__law_case cdv)) (envOfC "_law_case" (defScope s__law_case) s.heap.objs.size T.a__law_case cdv) (fun _ _ => False) := PassesOwn.never
  have hN := sc__law_case.nd
  have hu : (A.deeper (envOfC "_law_case" (defScope s__law_case) s.heap.objs.size T.a__law_case cdv)).units + 64 < cLine := by have := hr.un; omega
  have hu0 : (A.deeper (envOfC "_law_case" (defScope s__law_case) s.heap.objs.size T.a__law_case cdv)).units < cLine := by have := hr.un; omega
  have hu1 : (A.deeper (envOfC "_law_case" (defScope s__law_case) s.heap.objs.size T.a__law_case cdv)).units + 65 < cLine := by have := hr.un; omega
  match vs, hl with
  | [x0, x1], _ =>
  obtain ⟨p0, rfl⟩ := hio 0 x0 rfl rfl
  exact ⟨[.io p0, .fz, .fz], (by intro i q h; simp [io0, SC.loop] at h; rw [h.1, h.2]; rfl), (vss_one (vs_ret (ve_callTy call_tuple_of c_tuple (by rfl) T.z_tuple (by decide +kernel) (va_cons (va_bor (vb_ex (ve_lc rfl hN (own := [("sign", 2)]) (vi_any (vb_brw (pv 1) rfl)) (blkOk_by (by kernel_rfl)) (allFz_ok rfl) (fun _ _ _ _ _ => (vg_name hN rfl (by first | exact .inl rfl | exact .inr rfl) rfl (memB rfl))) (fun _ _ _ _ _ => vts_nil) (fun _ _ _ _ _ => (ve_call0 (fe := v__law_draw) (pms := [.io, .brw]) (.inr rfl) (va_cons (va_io (pv 0)) (va_cons (va_bor (vb_ex ve_int)) va_nil)) rfl (nodupB rfl) rfl (fun h => pe_call (ok__law_draw T) (hr.mono (by decide)) (by rfl) T.m__law_draw T.F__law_draw.kp T.b__law_draw .nil pass0 h)))))) va_nil)) rfl (by intro i q h; simp [io0, SC.loop] at h; rw [h.1, h.2]; rfl)))⟩
def b__law_cases : Es := (sSeq (sSet 1 (eLst [.val (eTup [])])) (sSeq (sFor (eIt (eVar 0)) (.name 2) (sSeq (sSet 3 (eLst [])) (sSeq (sFor (eIt (eVar 1)) (.name 4) (sSet 3 (eBin dAdd (.slot 3) (.ex (eLC (eIt (eLst [.val (eC (.int 0)), .val (eC (.int 1)), .val (eC (.int 2)), .val (eC (.int 3))])) [5] (.name 5) tYesE (eBin dAdd (.slot 4) (.ex (eTup [.val (eVar 5)])))))))) (sSet 1 (eVar 3))))) (sRet (eVar 1))))
def v__law_cases : Fe := fun ds => noexn (fnEv [.brw] 6 b__law_cases ds)
theorem ok__law_cases (T : Top K mg) : FnOk P w K mg base CX0 3 T.a__law_cases T.d__law_cases ["sides"] (spFn K mg [.brw] .fz v__law_cases EX0) := by
  refine fn_ok0 (N := N__law_cases) (As := List.range 6) T.F__law_cases sc__law_cases rfl (by decide) (fun cdv A outer s H vs E hr hl hio => ?_) (.inr rfl)
  have hp : PassesOwn (model P w) (A.deeper (envOfC "_law_cases" (defScope s__law_cases) s.heap.objs.size T.a__law_cases cdv)) (envOfC "_law_cases" (defScope s__law_cases) s.heap.objs.size T.a__law_cases cdv) (fun _ _ => False) := PassesOwn.never
  have hN := sc__law_cases.nd
  have hu : (A.deeper (envOfC "_law_cases" (defScope s__law_cases) s.heap.objs.size T.a__law_cases cdv)).units + 64 < cLine := by have := hr.un; omega
  have hu0 : (A.deeper (envOfC "_law_cases" (defScope s__law_cases) s.heap.objs.size T.a__law_cases cdv)).units < cLine := by have := hr.un; omega
  have hu1 : (A.deeper (envOfC "_law_cases" (defScope s__law_cases) s.heap.objs.size T.a__law_cases cdv)).units + 65 < cLine := by have := hr.un; omega
  match vs, hl with
  | [x0], _ =>
  exact ⟨[.fz, .fz, .fz, .fz, .fz, .fz], (by intro i q h; cases h), (vss_cons (vs_set hN rfl (by first | exact .inl rfl | exact .inr rfl) (ve_coe (ve_lst (va_cons (va_val (ve_tup va_nil rfl)) va_nil) rfl)) (.inl rfl) (ltB rfl) (memB rfl)) (vss_cons (vs_for hp rfl (vi_any (vb_brw (pv 0) rfl)) (vg_name hN rfl (by first | exact .inl rfl | exact .inr rfl) rfl (memB rfl)) (vss_cons (vs_set hN rfl (by first | exact .inl rfl | exact .inr rfl) (ve_coe (ve_lst va_nil rfl)) (.inl rfl) (ltB rfl) (memB rfl)) (vss_cons (vs_for hp rfl (vi_any (vb_ex (ve_fz (pv 1) rfl))) (vg_name hN rfl (by first | exact .inl rfl | exact .inr rfl) rfl (memB rfl)) (vss_one (vs_set hN rfl (by first | exact .inl rfl | exact .inr rfl) (ve_coe (ve_bin op_addA f_add (vb_slot (pv 3)) (vb_ex (ve_lc rfl hN (own := [("grade", 5)]) (vi_any (vb_ex (ve_lst (va_cons (va_val ve_int) (va_cons (va_val ve_int) (va_cons (va_val ve_int) (va_cons (va_val ve_int) va_nil)))) rfl))) (blkOk_by (by kernel_rfl)) (allFz_ok rfl) (fun _ _ _ _ _ => (vg_name hN rfl (by first | exact .inl rfl | exact .inr rfl) rfl (memB rfl))) (fun _ _ _ _ _ => vts_nil) (fun _ _ _ _ _ => (ve_coe (ve_bin op_addA f_add (vb_slot (pv 4)) (vb_ex (ve_tup (va_cons (va_val (ve_fz (pv 5) rfl)) va_nil) rfl))))))))) (.inl rfl) (ltB rfl) (memB rfl)))) (vss_one (vs_set hN rfl (by first | exact .inl rfl | exact .inr rfl) (ve_fz (pv 3) rfl) (.inl rfl) (ltB rfl) (memB rfl)))))) (vss_one (vs_ret (ve_fz (pv 1) rfl) rfl (by intro i q h; cases h)))))⟩
def b__law_ge : Es := (sSeq (sFor (eRng [.val (eCall fLen [.bor (.slot 0)])]) (.name 3) (sSeq (sIf (eAnd (eTB (eBin dEq (.ex (eBin dIx (.slot 0) (.slot 3))) (.ex (eC (.str [43]))))) (eTB (eBin dLt (.ex (eBin dIx (.slot 1) (.slot 3))) (.ex (eBin dIx (.slot 2) (.slot 3)))))) (sRet (eUp (eC (.bl false)))) sNil) (sIf (eAnd (eTB (eBin dEq (.ex (eBin dIx (.slot 0) (.slot 3))) (.ex (eC (.str [45]))))) (eTB (eBin dGt (.ex (eBin dIx (.slot 1) (.slot 3))) (.ex (eBin dIx (.slot 2) (.slot 3)))))) (sRet (eUp (eC (.bl false)))) sNil))) (sRet (eUp (eC (.bl true)))))
def v__law_ge : Fe := fun ds => noexn (fnEv [.brw, .brw, .brw] 4 b__law_ge ds)
theorem ok__law_ge (T : Top K mg) : FnOk P w K mg base CX0 3 T.a__law_ge T.d__law_ge ["sides", "c", "d"] (spFn K mg [.brw, .brw, .brw] .own v__law_ge EX0) := by
  refine fn_ok0 (N := N__law_ge) (As := List.range 4) T.F__law_ge sc__law_ge rfl (by decide) (fun cdv A outer s H vs E hr hl hio => ?_) (.inl rfl)
  have hp : PassesOwn (model P w) (A.deeper (envOfC "_law_ge" (defScope s__law_ge) s.heap.objs.size T.a__law_ge cdv)) (envOfC "_law_ge" (defScope s__law_ge) s.heap.objs.size T.a__law_ge cdv) (fun _ _ => False) := PassesOwn.never
  have hN := sc__law_ge.nd
  have hu : (A.deeper (envOfC "_law_ge" (defScope s__law_ge) s.heap.objs.size T.a__law_ge cdv)).units + 64 < cLine := by have := hr.un; omega
  have hu0 : (A.deeper (envOfC "_law_ge" (defScope s__law_ge) s.heap.objs.size T.a__law_ge cdv)).units < cLine := by have := hr.un; omega
  have hu1 : (A.deeper (envOfC "_law_ge" (defScope s__law_ge) s.heap.objs.size T.a__law_ge cdv)).units + 65 < cLine := by have := hr.un; omega
  match vs, hl with
  | [x0, x1, x2], _ =>
  exact ⟨[.fz, .fz, .fz, .fz], (by intro i q h; cases h), (vss_cons (vs_for hp rfl (vi_rng1 (by rfl) T.z_range (va_cons (va_val (ve_callB b_len c_len (by rfl) T.z_len (by decide +kernel) (va_cons (va_bor (vb_slot (pv 0))) va_nil))) va_nil)) (vg_name hN rfl (by first | exact .inl rfl | exact .inr rfl) rfl (memB rfl)) (vss_cons (vs_if (vt_bool (vw_and (vt_cmp (op_eqA hu) f_eq (vb_ex (ve_ix ix_seq f_ix (vb_slot (pv 0)) (vb_slot (pv 3)) (fun _ _ => rfl))) (vb_ex (ve_str (l := [43]) (by decide +kernel))) (nomark _)) (vw_and1 (vt_cmp (op_ltA hu0) f_lt (vb_ex (ve_ix ix_seq f_ix (vb_slot (pv 1)) (vb_slot (pv 3)) (fun _ _ => rfl))) (vb_ex (ve_ix ix_seq f_ix (vb_slot (pv 2)) (vb_slot (pv 3)) (fun _ _ => rfl))) (nomark _))))) (vss_one (vs_ret (ve_up ve_bl) rfl (by intro i q h; cases h))) vss_nil) (vss_one (vs_if (vt_bool (vw_and (vt_cmp (op_eqA hu) f_eq (vb_ex (ve_ix ix_seq f_ix (vb_slot (pv 0)) (vb_slot (pv 3)) (fun _ _ => rfl))) (vb_ex (ve_str (l := [45]) (by decide +kernel))) (nomark _)) (vw_and1 (vt_cmp op_gtA f_gt (vb_ex (ve_ix ix_seq f_ix (vb_slot (pv 1)) (vb_slot (pv 3)) (fun _ _ => rfl))) (vb_ex (ve_ix ix_seq f_ix (vb_slot (pv 2)) (vb_slot (pv 3)) (fun _ _ => rfl))) (nomark _))))) (vss_one (vs_ret (ve_up ve_bl) rfl (by intro i q h; cases h))) vss_nil)))) (vss_one (vs_ret (ve_up ve_bl) rfl (by intro i q h; cases h))))⟩
def b__law_rulings : Es := (sSeq (sSet 3 (eLC (eRng [.val (eFn [.io, .brw] v__law_draw [.io 0, .bor (.ex (eC (.int 4)))])]) [5] (.name 5) tYesE (eFn [.io, .brw] v__law_case [.io 0, .bor (.slot 1)]))) (sSeq (sSet 4 (eLst [])) (sSeq (sFor (eRng [.val (eFn [.io, .brw] v__law_draw [.io 0, .bor (.ex (eBin dAdd (.slot 2) (.ex (eC (.int 1)))))])]) (.name 5) (sSeq (sSet 6 (eFn [.io, .brw] v__law_case [.io 0, .bor (.slot 1)])) (sSeq (sIf (eAnd (eTB (eBin dGt (.ex (eCall fLen [.bor (.slot 4)])) (.ex (eC (.int 0))))) (eTB (eBin dEq (.ex (eFn [.io, .brw] v__law_draw [.io 0, .bor (.ex (eC (.int 4)))])) (.ex (eC (.int 0)))))) (sSeq (sSet 6 (eBin dIx (.ex (eBin dIx (.slot 4) (.ex (eFn [.io, .brw] v__law_draw [.io 0, .bor (.ex (eCall fLen [.bor (.slot 4)]))])))) (.ex (eC (.int 0))))) (sSeq (sSet 7 (eFn [.io, .brw] v__law_draw [.io 0, .bor (.ex (eCall fLen [.bor (.slot 1)]))])) (sSet 6 (eBin dAdd (.ex (eBin dAdd (.ex (eSl (.slot 6) none (some (eVar 7)))) (.ex (eTup [.val (eFn [.io, .brw] v__law_draw [.io 0, .bor (.ex (eC (.int 4)))])])))) (.ex (eSl (.slot 6) (some (eBin dAdd (.slot 7) (.ex (eC (.int 1))))) none)))))) sNil) (sSeq (sSet 8 (eBin dGt (.ex (eCall fLen [.bor (.ex (eLC (eIt (eVar 3)) [9] (.name 9) (eTru (.ex (eFn [.brw, .brw, .brw] v__law_ge [.bor (.slot 1), .bor (.slot 6), .bor (.slot 9)]))) (eVar 9)))])) (.ex (eC (.int 0))))) (sExpr (eMut 4 mAppend [.val (eTup [.val (eVar 6), .val (eBin dIx (.ex (eLst [.val (eC (.str [107, 101, 101, 112])), .val (eC (.str [114, 101, 109, 111, 118, 101]))])) (.ex (eCall fInt [.bor (.slot 8)])))])])))))) (sRet (eOut [0] 4)))))
def v__law_rulings : Fe := fun ds => noexn (fnEv [.io, .brw, .brw] 10 b__law_rulings ds)
theorem ok__law_rulings (T : Top K mg) : FnOk P w K mg base CX0 5 T.a__law_rulings T.d__law_rulings ["feed", "sides", "most"] (spFn K mg [.io, .brw, .brw] .own v__law_rulings EX0) := by
  refine fn_ok0 (N := N__law_rulings) (As := List.range 10) T.F__law_rulings sc__law_rulings rfl (by decide) (fun cdv A outer s H vs E hr hl hio => ?_) (.inl rfl)
  have hp : PassesOwn (model P w) (A.deeper (envOfC "_law_rulings" (defScope s__law_rulings) s.heap.objs.size T.a__law_rulings cdv)) (envOfC "_law_rulings" (defScope s__law_rulings) s.heap.objs.size T.a__law_rulings cdv) (fun _ _ => False) := PassesOwn.never
  have hN := sc__law_rulings.nd
  have hu : (A.deeper (envOfC "_law_rulings" (defScope s__law_rulings) s.heap.objs.size T.a__law_rulings cdv)).units + 64 < cLine := by have := hr.un; omega
  have hu0 : (A.deeper (envOfC "_law_rulings" (defScope s__law_rulings) s.heap.objs.size T.a__law_rulings cdv)).units < cLine := by have := hr.un; omega
  have hu1 : (A.deeper (envOfC "_law_rulings" (defScope s__law_rulings) s.heap.objs.size T.a__law_rulings cdv)).units + 65 < cLine := by have := hr.un; omega
  match vs, hl with
  | [x0, x1, x2], _ =>
  obtain ⟨p0, rfl⟩ := hio 0 x0 rfl rfl
  exact ⟨[.io p0, .fz, .fz, .fz, .fz, .fz, .fz, .fz, .fz, .fz], (by intro i q h; simp [io0, SC.loop] at h; rw [h.1, h.2]; rfl), (vss_cons (vs_setLc (m := .fz) rfl hN rfl rfl (sw_true rfl rfl rfl (by decide +kernel)) (own := [("k", 5)]) (vi_rng1 (by rfl) T.z_range (va_cons (va_val (ve_call0 (fe := v__law_draw) (pms := [.io, .brw]) (.inr rfl) (va_cons (va_io (pv 0)) (va_cons (va_bor (vb_ex ve_int)) va_nil)) rfl (nodupB rfl) rfl (fun h => pe_call (ok__law_draw T) (hr.mono (by decide)) (by rfl) T.m__law_draw T.F__law_draw.kp T.b__law_draw .nil pass0 h))) va_nil)) (blkOk_by (by kernel_rfl)) (allFz_ok rfl) (fun _ _ _ _ _ => (vg_name hN rfl (by first | exact .inl rfl | exact .inr rfl) rfl (memB rfl))) (fun _ _ _ _ _ => vts_nil) (fun _ _ _ _ _ => (ve_call0 (fe := v__law_case) (pms := [.io, .brw]) (.inr rfl) (va_cons (va_io (pv 0)) (va_cons (va_bor (vb_slot (pv 1))) va_nil)) rfl (nodupB rfl) rfl (fun h => pe_call (ok__law_case T) (hr.mono (by decide)) (by rfl) T.m__law_case T.F__law_case.kp T.b__law_case .nil pass0 h))) (.inr rfl) (ltB rfl) (memB rfl)) (vss_cons (vs_set hN rfl (by first | exact .inl rfl | exact .inr rfl) (ve_lst va_nil rfl) (.inr rfl) (ltB rfl) (memB rfl)) (vss_cons (vs_for hp rfl (vi_rng1 (by rfl) T.z_range (va_cons (va_val (ve_call0 (fe := v__law_draw) (pms := [.io, .brw]) (.inr rfl) (va_cons (va_io (pv 0)) (va_cons (va_bor (vb_ex (ve_bin op_addA f_add (vb_slot (pv 2)) (vb_ex ve_int)))) va_nil)) rfl (nodupB rfl) rfl (fun h => pe_call (ok__law_draw T) (hr.mono (by decide)) (by rfl) T.m__law_draw T.F__law_draw.kp T.b__law_draw .nil pass0 h))) va_nil)) (vg_name hN rfl (by first | exact .inl rfl | exact .inr rfl) rfl (memB rfl)) (vss_cons (vs_set hN rfl (by first | exact .inl rfl | exact .inr rfl) (ve_call0 (fe := v__law_case) (pms := [.io, .brw]) (.inr rfl) (va_cons (va_io (pv 0)) (va_cons (va_bor (vb_slot (pv 1))) va_nil)) rfl (nodupB rfl) rfl (fun h => pe_call (ok__law_case T) (hr.mono (by decide)) (by rfl) T.m__law_case T.F__law_case.kp T.b__law_case .nil pass0 h)) (.inl rfl) (ltB rfl) (memB rfl)) (vss_cons (vs_if (vt_bool (vw_and (vt_cmp op_gtA f_gt (vb_ex (ve_callB b_len c_len (by rfl) T.z_len (by decide +kernel) (va_cons (va_bor (vb_slot (pv 4))) va_nil))) (vb_ex ve_int) (nomark _)) (vw_and1 (vt_cmp (op_eqA hu) f_eq (vb_ex (ve_call0 (fe := v__law_draw) (pms := [.io, .brw]) (.inr rfl) (va_cons (va_io (pv 0)) (va_cons (va_bor (vb_ex ve_int)) va_nil)) rfl (nodupB rfl) rfl (fun h => pe_call (ok__law_draw T) (hr.mono (by decide)) (by rfl) T.m__law_draw T.F__law_draw.kp T.b__law_draw .nil pass0 h))) (vb_ex ve_int) (nomark _))))) (vss_cons (vs_set hN rfl (by first | exact .inl rfl | exact .inr rfl) (ve_ix ix_seq f_ix (vb_ex (ve_ix ix_seq f_ix (vb_slot (pv 4)) (vb_ex (ve_call0 (fe := v__law_draw) (pms := [.io, .brw]) (.inr rfl) (va_cons (va_io (pv 0)) (va_cons (va_bor (vb_ex (ve_callB b_len c_len (by rfl) T.z_len (by decide +kernel) (va_cons (va_bor (vb_slot (pv 4))) va_nil)))) va_nil)) rfl (nodupB rfl) rfl (fun h => pe_call (ok__law_draw T) (hr.mono (by decide)) (by rfl) T.m__law_draw T.F__law_draw.kp T.b__law_draw .nil pass0 h))) (fun _ _ => rfl))) (vb_ex ve_int) (fun _ _ => rfl)) (.inl rfl) (ltB rfl) (memB rfl)) (vss_cons (vs_set hN rfl (by first | exact .inl rfl | exact .inr rfl) (ve_call0 (fe := v__law_draw) (pms := [.io, .brw]) (.inr rfl) (va_cons (va_io (pv 0)) (va_cons (va_bor (vb_ex (ve_callB b_len c_len (by rfl) T.z_len (by decide +kernel) (va_cons (va_bor (vb_slot (pv 1))) va_nil)))) va_nil)) rfl (nodupB rfl) rfl (fun h => pe_call (ok__law_draw T) (hr.mono (by decide)) (by rfl) T.m__law_draw T.F__law_draw.kp T.b__law_draw .nil pass0 h)) (.inl rfl) (ltB rfl) (memB rfl)) (vss_one (vs_set hN rfl (by first | exact .inl rfl | exact .inr rfl) (ve_coe (ve_bin op_addA f_add (vb_ex (ve_bin op_addA f_add (vb_ex (ve_slice (vb_slot (pv 6)) vpo_none (vpo_some (ve_fz (pv 7) rfl)))) (vb_ex (ve_tup (va_cons (va_val (ve_call0 (fe := v__law_draw) (pms := [.io, .brw]) (.inr rfl) (va_cons (va_io (pv 0)) (va_cons (va_bor (vb_ex ve_int)) va_nil)) rfl (nodupB rfl) rfl (fun h => pe_call (ok__law_draw T) (hr.mono (by decide)) (by rfl) T.m__law_draw T.F__law_draw.kp T.b__law_draw .nil pass0 h))) va_nil) rfl)))) (vb_ex (ve_slice (vb_slot (pv 6)) (vpo_some (ve_coe (ve_bin op_addA f_add (vb_slot (pv 7)) (vb_ex ve_int)))) vpo_none)))) (.inl rfl) (ltB rfl) (memB rfl))))) vss_nil) (vss_cons (vs_set hN rfl (by first | exact .inl rfl | exact .inr rfl) (ve_cmp op_gtA f_gt (vb_ex (ve_callB b_len c_len (by rfl) T.z_len (by decide +kernel) (va_cons (va_bor (vb_ex (ve_lc rfl hN (own := [("one", 9)]) (vi_any (vb_ex (ve_fz (pv 3) rfl))) (blkOk_by (by kernel_rfl)) (allFz_ok rfl) (fun _ _ _ _ _ => (vg_name hN rfl (by first | exact .inl rfl | exact .inr rfl) rfl (memB rfl))) (fun _ _ _ _ _ => (vts_one (vt_tru (vb_ex (ve_call0 (fe := v__law_ge) (pms := [.brw, .brw, .brw]) (.inl rfl) (va_cons (va_bor (vb_slot (pv 1))) (va_cons (va_bor (vb_slot (pv 6))) (va_cons (va_bor (vb_slot (pv 9))) va_nil))) rfl (nodupB rfl) rfl (fun h => pe_call (ok__law_ge T) (hr.mono (by decide)) (by rfl) T.m__law_ge T.F__law_ge.kp T.b__law_ge .nil pass0 h)))))) (fun _ _ _ _ _ => (ve_fz (pv 9) rfl))))) va_nil))) (vb_ex ve_int) (nomark _)) (.inl rfl) (ltB rfl) (memB rfl)) (vss_one (vs_expr (ve_mut m_append PySem.F.slot_list_append PySem.F.type_list_append mt_append (pv 4) (va_cons (va_val (ve_tup (va_cons (va_val (ve_fz (pv 6) rfl)) (va_cons (va_val (ve_ix ix_seq f_ix (vb_ex (ve_lst (va_cons (va_val (ve_str (l := [107, 101, 101, 112]) (by decide +kernel))) (va_cons (va_val (ve_str (l := [114, 101, 109, 111, 118, 101]) (by decide +kernel))) va_nil)) rfl)) (vb_ex (ve_callTy call_int1 c_int (by rfl) T.z_int (by decide +kernel) (va_cons (va_bor (vb_slot (pv 8))) va_nil))) (fun _ _ => rfl))) va_nil)) rfl)) va_nil) rfl rfl rfl))))))) (vss_one (vs_retOwn (js := [0]) (pv 4) rfl rfl (by intro i q h; simp [io0, SC.loop] at h; rw [h.1, h.2]; rfl) (by intro i q h; simp [io0, SC.loop] at h; rw [h.1]; decide))))))⟩
def b__law_flipped : Es := (sSeq (sSet 2 (eCall fList [.bor (.slot 1)])) (sSeq (sFor (eRng [.val (eFn [.io, .brw] v__law_draw [.io 0, .bor (.ex (eC (.int 4)))])]) (.name 3) (sIf (eTB (eBin dGt (.ex (eCall fLen [.bor (.slot 2)])) (.ex (eC (.int 0))))) (sSeq (sSet 4 (eFn [.io, .brw] v__law_draw [.io 0, .bor (.ex (eCall fLen [.bor (.slot 2)]))])) (sSeq (sAsg (.tup [(.name 5), (.name 6)]) (eBin dIx (.slot 2) (.slot 4))) (sSetIx 2 (eVar 4) (eTup [.val (eVar 5), .val (eBin dIx (.ex (eLst [.val (eC (.str [107, 101, 101, 112])), .val (eC (.str [114, 101, 109, 111, 118, 101]))])) (.ex (eCall fInt [.bor (.ex (eBin dEq (.slot 6) (.ex (eC (.str [107, 101, 101, 112])))))])))])))) sNil)) (sRet (eOut [0] 2))))
def v__law_flipped : Fe := fun ds => noexn (fnEv [.io, .brw] 7 b__law_flipped ds)
theorem ok__law_flipped (T : Top K mg) : FnOk P w K mg base CX0 4 T.a__law_flipped T.d__law_flipped ["feed", "rulings"] (spFn K mg [.io, .brw] .own v__law_flipped EX0) := by
  refine fn_ok0 (N := N__law_flipped) (As := List.range 7) T.F__law_flipped sc__law_flipped rfl (by decide) (fun cdv A outer s H vs E hr hl hio => ?_) (.inl rfl)
  have hp : PassesOwn (model P w) (A.deeper (envOfC "_law_flipped" (defScope s__law_flipped) s.heap.objs.size T.a__law_flipped cdv)) (envOfC "_law_flipped" (defScope s__law_flipped) s.heap.objs.size T.a__law_flipped cdv) (fun _ _ => False) := PassesOwn.never
  have hN := sc__law_flipped.nd
  have hu : (A.deeper (envOfC "_law_flipped" (defScope s__law_flipped) s.heap.objs.size T.a__law_flipped cdv)).units + 64 < cLine := by have := hr.un; omega
  have hu0 : (A.deeper (envOfC "_law_flipped" (defScope s__law_flipped) s.heap.objs.size T.a__law_flipped cdv)).units < cLine := by have := hr.un; omega
  have hu1 : (A.deeper (envOfC "_law_flipped" (defScope s__law_flipped) s.heap.objs.size T.a__law_flipped cdv)).units + 65 < cLine := by have := hr.un; omega
  match vs, hl with
  | [x0, x1], _ =>
  obtain ⟨p0, rfl⟩ := hio 0 x0 rfl rfl
  exact ⟨[.io p0, .fz, .fz, .fz, .fz, .fz, .fz], (by intro i q h; simp [io0, SC.loop] at h; rw [h.1, h.2]; rfl), (vss_cons (vs_set hN rfl (by first | exact .inl rfl | exact .inr rfl) (ve_callTy call_list_of c_list (by rfl) T.z_list (by decide +kernel) (va_cons (va_bor (vb_slot (pv 1))) va_nil)) (.inr rfl) (ltB rfl) (memB rfl)) (vss_cons (vs_for hp rfl (vi_rng1 (by rfl) T.z_range (va_cons (va_val (ve_call0 (fe := v__law_draw) (pms := [.io, .brw]) (.inr rfl) (va_cons (va_io (pv 0)) (va_cons (va_bor (vb_ex ve_int)) va_nil)) rfl (nodupB rfl) rfl (fun h => pe_call (ok__law_draw T) (hr.mono (by decide)) (by rfl) T.m__law_draw T.F__law_draw.kp T.b__law_draw .nil pass0 h))) va_nil)) (vg_name hN rfl (by first | exact .inl rfl | exact .inr rfl) rfl (memB rfl)) (vss_one (vs_if (vt_cmp op_gtA f_gt (vb_ex (ve_callB b_len c_len (by rfl) T.z_len (by decide +kernel) (va_cons (va_bor (vb_slot (pv 2))) va_nil))) (vb_ex ve_int) (nomark _)) (vss_cons (vs_set hN rfl (by first | exact .inl rfl | exact .inr rfl) (ve_call0 (fe := v__law_draw) (pms := [.io, .brw]) (.inr rfl) (va_cons (va_io (pv 0)) (va_cons (va_bor (vb_ex (ve_callB b_len c_len (by rfl) T.z_len (by decide +kernel) (va_cons (va_bor (vb_slot (pv 2))) va_nil)))) va_nil)) rfl (nodupB rfl) rfl (fun h => pe_call (ok__law_draw T) (hr.mono (by decide)) (by rfl) T.m__law_draw T.F__law_draw.kp T.b__law_draw .nil pass0 h)) (.inl rfl) (ltB rfl) (memB rfl)) (vss_cons (vs_asg (ve_ix ix_seq f_ix (vb_slot (pv 2)) (vb_slot (pv 4)) (fun _ _ => rfl)) (vg_tup rfl (vgs_cons (vg_name hN rfl (by first | exact .inl rfl | exact .inr rfl) rfl (memB rfl)) (vgs_cons (vg_name hN rfl (by first | exact .inl rfl | exact .inr rfl) rfl (memB rfl)) vgs_nil)))) (vss_one (vs_setIx (ve_tup (va_cons (va_val (ve_fz (pv 5) rfl)) (va_cons (va_val (ve_ix ix_seq f_ix (vb_ex (ve_lst (va_cons (va_val (ve_str (l := [107, 101, 101, 112]) (by decide +kernel))) (va_cons (va_val (ve_str (l := [114, 101, 109, 111, 118, 101]) (by decide +kernel))) va_nil)) rfl)) (vb_ex (ve_callTy call_int1 c_int (by rfl) T.z_int (by decide +kernel) (va_cons (va_bor (vb_ex (ve_cmp (op_eqA hu) f_eq (vb_slot (pv 6)) (vb_ex (ve_str (l := [107, 101, 101, 112]) (by decide +kernel))) (nomark _)))) va_nil))) (fun _ _ => rfl))) va_nil)) rfl) (pg_sub (pv 2) (ve_fz (pv 4) rfl) set_list) rfl rfl)))) vss_nil))) (vss_one (vs_retOwn (js := [0]) (pv 2) rfl rfl (by intro i q h; simp [io0, SC.loop] at h; rw [h.1, h.2]; rfl) (by intro i q h; simp [io0, SC.loop] at h; rw [h.1]; decide)))))⟩
def b__law_some_book : Es := (sSeq (sSet 1 (eFn [.io, .brw] v__law_sides [.io 0, .bor (.ex (eC (.int 3)))])) (sSeq (sSet 2 (eC (.int 8))) (sSeq (sIf (eTB (eBin dEq (.ex (eFn [.io, .brw] v__law_draw [.io 0, .bor (.ex (eC (.int 10)))])) (.ex (eC (.int 0))))) (sSeq (sSet 1 (eBin dAdd (.slot 1) (.ex (eC (.str [43, 45]))))) (sSet 2 (eC (.int 30)))) sNil) (sSeq (sSet 3 (eFn [.io, .brw, .brw] v__law_rulings [.io 0, .bor (.slot 1), .bor (.slot 2)])) (sSeq (sIf (eTB (eBin dEq (.ex (eFn [.io, .brw] v__law_draw [.io 0, .bor (.ex (eC (.int 2)))])) (.ex (eC (.int 0))))) (sSet 3 (eFn [.io, .brw] v__law_flipped [.io 0, .bor (.slot 3)])) sNil) (sRet (eUp (eTup [.val (eVar 1), .val (eVar 3)]))))))))
def v__law_some_book : Fe := fun ds => noexn (fnEv [.io] 4 b__law_some_book ds)
theorem ok__law_some_book (T : Top K mg) : FnOk P w K mg base CX0 6 T.a__law_some_book T.d__law_some_book ["feed"] (spFn K mg [.io] .own v__law_some_book EX0) := by
  refine fn_ok0 (N := N__law_some_book) (As := List.range 4) T.F__law_some_book sc__law_some_book rfl (by decide) (fun cdv A outer s H vs E hr hl hio => ?_) (.inl rfl)
  have hp : PassesOwn (model P w) (A.deeper (envOfC "_law_some_book" (defScope s__law_some_book) s.heap.objs.size T.a__law_some_book cdv)) (envOfC "_law_some_book" (defScope s__law_some_book) s.heap.objs.size T.a__law_some_book cdv) (fun _ _ => False) := PassesOwn.never
  have hN := sc__law_some_book.nd
  have hu : (A.deeper (envOfC "_law_some_book" (defScope s__law_some_book) s.heap.objs.size T.a__law_some_book cdv)).units + 64 < cLine := by have := hr.un; omega
  have hu0 : (A.deeper (envOfC "_law_some_book" (defScope s__law_some_book) s.heap.objs.size T.a__law_some_book cdv)).units < cLine := by have := hr.un; omega
  have hu1 : (A.deeper (envOfC "_law_some_book" (defScope s__law_some_book) s.heap.objs.size T.a__law_some_book cdv)).units + 65 < cLine := by have := hr.un; omega
  match vs, hl with
  | [x0], _ =>
  obtain ⟨p0, rfl⟩ := hio 0 x0 rfl rfl
  exact ⟨[.io p0, .fz, .fz, .fz], (by intro i q h; simp [io0, SC.loop] at h; rw [h.1, h.2]; rfl), (vss_cons (vs_set hN rfl (by first | exact .inl rfl | exact .inr rfl) (ve_call0 (fe := v__law_sides) (pms := [.io, .brw]) (.inr rfl) (va_cons (va_io (pv 0)) (va_cons (va_bor (vb_ex ve_int)) va_nil)) rfl (nodupB rfl) rfl (fun h => pe_call (ok__law_sides T) (hr.mono (by decide)) (by rfl) T.m__law_sides T.F__law_sides.kp T.b__law_sides .nil pass0 h)) (.inl rfl) (ltB rfl) (memB rfl)) (vss_cons (vs_set hN rfl (by first | exact .inl rfl | exact .inr rfl) ve_int (.inl rfl) (ltB rfl) (memB rfl)) (vss_cons (vs_if (vt_cmp (op_eqA hu) f_eq (vb_ex (ve_call0 (fe := v__law_draw) (pms := [.io, .brw]) (.inr rfl) (va_cons (va_io (pv 0)) (va_cons (va_bor (vb_ex ve_int)) va_nil)) rfl (nodupB rfl) rfl (fun h => pe_call (ok__law_draw T) (hr.mono (by decide)) (by rfl) T.m__law_draw T.F__law_draw.kp T.b__law_draw .nil pass0 h))) (vb_ex ve_int) (nomark _)) (vss_cons (vs_set hN rfl (by first | exact .inl rfl | exact .inr rfl) (ve_coe (ve_bin op_addA f_add (vb_slot (pv 1)) (vb_ex (ve_str (l := [43, 45]) (by decide +kernel))))) (.inl rfl) (ltB rfl) (memB rfl)) (vss_one (vs_set hN rfl (by first | exact .inl rfl | exact .inr rfl) ve_int (.inl rfl) (ltB rfl) (memB rfl)))) vss_nil) (vss_cons (vs_set hN rfl (by first | exact .inl rfl | exact .inr rfl) (ve_coe (ve_call0 (fe := v__law_rulings) (pms := [.io, .brw, .brw]) (.inl rfl) (va_cons (va_io (pv 0)) (va_cons (va_bor (vb_slot (pv 1))) (va_cons (va_bor (vb_slot (pv 2))) va_nil))) rfl (nodupB rfl) rfl (fun h => pe_call (ok__law_rulings T) (hr.mono (by decide)) (by rfl) T.m__law_rulings T.F__law_rulings.kp T.b__law_rulings .nil pass0 h))) (.inl rfl) (ltB rfl) (memB rfl)) (vss_cons (vs_if (vt_cmp (op_eqA hu) f_eq (vb_ex (ve_call0 (fe := v__law_draw) (pms := [.io, .brw]) (.inr rfl) (va_cons (va_io (pv 0)) (va_cons (va_bor (vb_ex ve_int)) va_nil)) rfl (nodupB rfl) rfl (fun h => pe_call (ok__law_draw T) (hr.mono (by decide)) (by rfl) T.m__law_draw T.F__law_draw.kp T.b__law_draw .nil pass0 h))) (vb_ex ve_int) (nomark _)) (vss_one (vs_set hN rfl (by first | exact .inl rfl | exact .inr rfl) (ve_coe (ve_call0 (fe := v__law_flipped) (pms := [.io, .brw]) (.inl rfl) (va_cons (va_io (pv 0)) (va_cons (va_bor (vb_slot (pv 3))) va_nil)) rfl (nodupB rfl) rfl (fun h => pe_call (ok__law_flipped T) (hr.mono (by decide)) (by rfl) T.m__law_flipped T.F__law_flipped.kp T.b__law_flipped .nil pass0 h))) (.inl rfl) (ltB rfl) (memB rfl))) vss_nil) (vss_one (vs_ret (ve_up (ve_tup (va_cons (va_val (ve_fz (pv 1) rfl)) (va_cons (va_val (ve_fz (pv 3) rfl)) va_nil)) rfl)) rfl (by intro i q h; simp [io0, SC.loop] at h; rw [h.1, h.2]; rfl))))))))⟩
def b__law_cross : Es := (sSeq (sFor (eRng [.val (eCall fLen [.bor (.slot 1)])]) (.name 2) (sFor (eRng [.val (eCall fLen [.bor (.slot 1)])]) (.name 3) (sIf (eAnd (eTB (eBin dEq (.ex (eBin dIx (.ex (eBin dIx (.slot 1) (.slot 2))) (.ex (eC (.int 1))))) (.ex (eC (.str [114, 101, 109, 111, 118, 101]))))) (eAnd (eTB (eBin dEq (.ex (eBin dIx (.ex (eBin dIx (.slot 1) (.slot 3))) (.ex (eC (.int 1))))) (.ex (eC (.str [107, 101, 101, 112]))))) (eTru (.ex (eFn [.brw, .brw, .brw] v__law_ge [.bor (.slot 0), .bor (.ex (eBin dIx (.ex (eBin dIx (.slot 1) (.slot 3))) (.ex (eC (.int 0))))), .bor (.ex (eBin dIx (.ex (eBin dIx (.slot 1) (.slot 2))) (.ex (eC (.int 0)))))]))))) (sRet (eUp (eTup [.val (eVar 2), .val (eVar 3)]))) sNil))) (sRet (eUp (eC .non))))
def v__law_cross : Fe := fun ds => noexn (fnEv [.brw, .brw] 4 b__law_cross ds)
theorem ok__law_cross (T : Top K mg) : FnOk P w K mg base CX0 4 T.a__law_cross T.d__law_cross ["sides", "rulings"] (spFn K mg [.brw, .brw] .own v__law_cross EX0) := by
  refine fn_ok0 (N := N__law_cross) (As := List.range 4) T.F__law_cross sc__law_cross rfl (by decide) (fun cdv A outer s H vs E hr hl hio => ?_) (.inl rfl)
  have hp : PassesOwn (model P w) (A.deeper (envOfC "_law_cross" (defScope s__law_cross) s.heap.objs.size T.a__law_cross cdv)) (envOfC "_law_cross" (defScope s__law_cross) s.heap.objs.size T.a__law_cross cdv) (fun _ _ => False) := PassesOwn.never
  have hN := sc__law_cross.nd
  have hu : (A.deeper (envOfC "_law_cross" (defScope s__law_cross) s.heap.objs.size T.a__law_cross cdv)).units + 64 < cLine := by have := hr.un; omega
  have hu0 : (A.deeper (envOfC "_law_cross" (defScope s__law_cross) s.heap.objs.size T.a__law_cross cdv)).units < cLine := by have := hr.un; omega
  have hu1 : (A.deeper (envOfC "_law_cross" (defScope s__law_cross) s.heap.objs.size T.a__law_cross cdv)).units + 65 < cLine := by have := hr.un; omega
  match vs, hl with
  | [x0, x1], _ =>
  exact ⟨[.fz, .fz, .fz, .fz], (by intro i q h; cases h), (vss_cons (vs_for hp rfl (vi_rng1 (by rfl) T.z_range (va_cons (va_val (ve_callB b_len c_len (by rfl) T.z_len (by decide +kernel) (va_cons (va_bor (vb_slot (pv 1))) va_nil))) va_nil)) (vg_name hN rfl (by first | exact .inl rfl | exact .inr rfl) rfl (memB rfl)) (vss_one (vs_for hp rfl (vi_rng1 (by rfl) T.z_range (va_cons (va_val (ve_callB b_len c_len (by rfl) T.z_len (by decide +kernel) (va_cons (va_bor (vb_slot (pv 1))) va_nil))) va_nil)) (vg_name hN rfl (by first | exact .inl rfl | exact .inr rfl) rfl (memB rfl)) (vss_one (vs_if (vt_bool (vw_and (vt_cmp (op_eqA hu) f_eq (vb_ex (ve_ix ix_seq f_ix (vb_ex (ve_ix ix_seq f_ix (vb_slot (pv 1)) (vb_slot (pv 2)) (fun _ _ => rfl))) (vb_ex ve_int) (fun _ _ => rfl))) (vb_ex (ve_str (l := [114, 101, 109, 111, 118, 101]) (by decide +kernel))) (nomark _)) (vw_and (vt_cmp (op_eqA hu) f_eq (vb_ex (ve_ix ix_seq f_ix (vb_ex (ve_ix ix_seq f_ix (vb_slot (pv 1)) (vb_slot (pv 3)) (fun _ _ => rfl))) (vb_ex ve_int) (fun _ _ => rfl))) (vb_ex (ve_str (l := [107, 101, 101, 112]) (by decide +kernel))) (nomark _)) (vw_and1 (vt_tru (vb_ex (ve_call0 (fe := v__law_ge) (pms := [.brw, .brw, .brw]) (.inl rfl) (va_cons (va_bor (vb_slot (pv 0))) (va_cons (va_bor (vb_ex (ve_ix ix_seq f_ix (vb_ex (ve_ix ix_seq f_ix (vb_slot (pv 1)) (vb_slot (pv 3)) (fun _ _ => rfl))) (vb_ex ve_int) (fun _ _ => rfl)))) (va_cons (va_bor (vb_ex (ve_ix ix_seq f_ix (vb_ex (ve_ix ix_seq f_ix (vb_slot (pv 1)) (vb_slot (pv 2)) (fun _ _ => rfl))) (vb_ex ve_int) (fun _ _ => rfl)))) va_nil))) rfl (nodupB rfl) rfl (fun h => pe_call (ok__law_ge T) (hr.mono (by decide)) (by rfl) T.m__law_ge T.F__law_ge.kp T.b__law_ge .nil pass0 h)))))))) (vss_one (vs_ret (ve_up (ve_tup (va_cons (va_val (ve_fz (pv 2) rfl)) (va_cons (va_val (ve_fz (pv 3) rfl)) va_nil)) rfl)) rfl (by intro i q h; cases h))) vss_nil))))) (vss_one (vs_ret (ve_up ve_non) rfl (by intro i q h; cases h))))⟩
def b__law_more : Es := (sSeq (sSet 3 (eCall fList [.bor (.slot 2)])) (sSeq (sFor (eRng [.val (eFn [.io, .brw] v__law_draw [.io 0, .bor (.ex (eC (.int 5)))])]) (.name 4) (sIf (eTB (eChain dLt dLt (.ex (eC (.int 0))) (.ex (eCall fLen [.bor (.slot 3)])) (.ex (eC (.int 30))))) (sSeq (sAsg (.tup [(.name 5), (.name 6)]) (eBin dIx (.slot 3) (.ex (eFn [.io, .brw] v__law_draw [.io 0, .bor (.ex (eCall fLen [.bor (.slot 3)]))])))) (sSeq (sSet 7 (eFn [.io, .brw] v__law_draw [.io 0, .bor (.ex (eCall fLen [.bor (.slot 1)]))])) (sSeq (sSet 8 (eBin dIx (.ex (eLst [.val (eC (.int 1)), .val (eNeg (eC (.int 1))), .val (eC (.int 0))])) (.ex (eFn [.io, .brw] v__law_draw [.io 0, .bor (.ex (eC (.int 3)))])))) (sSeq (sSet 9 (eCall fMax2 [.bor (.ex (eC (.int 0))), .bor (.ex (eCall fMin2 [.bor (.ex (eC (.int 3))), .bor (.ex (eBin dAdd (.ex (eBin dIx (.slot 5) (.slot 7))) (.slot 8)))]))])) (sExpr (eMut 3 mInsert [.val (eFn [.io, .brw] v__law_draw [.io 0, .bor (.ex (eBin dAdd (.ex (eCall fLen [.bor (.slot 3)])) (.ex (eC (.int 1)))))]), .val (eTup [.val (eBin dAdd (.ex (eBin dAdd (.ex (eSl (.slot 5) none (some (eVar 7)))) (.ex (eTup [.val (eVar 9)])))) (.ex (eSl (.slot 5) (some (eBin dAdd (.slot 7) (.ex (eC (.int 1))))) none))), .val (eVar 6)])])))))) sNil)) (sRet (eOut [0] 3))))
def v__law_more : Fe := fun ds => noexn (fnEv [.io, .brw, .brw] 10 b__law_more ds)
theorem ok__law_more (T : Top K mg) : FnOk P w K mg base CX0 4 T.a__law_more T.d__law_more ["feed", "sides", "rulings"] (spFn K mg [.io, .brw, .brw] .own v__law_more EX0) := by
  refine fn_ok0 (N := N__law_more) (As := List.range 10) T.F__law_more sc__law_more rfl (by decide) (fun cdv A outer s H vs E hr hl hio => ?_) (.inl rfl)
  have hp : PassesOwn (model P w) (A.deeper (envOfC "_law_more" (defScope s__law_more) s.heap.objs.size T.a__law_more cdv)) (envOfC "_law_more" (defScope s__law_more) s.heap.objs.size T.a__law_more cdv) (fun _ _ => False) := PassesOwn.never
  have hN := sc__law_more.nd
  have hu : (A.deeper (envOfC "_law_more" (defScope s__law_more) s.heap.objs.size T.a__law_more cdv)).units + 64 < cLine := by have := hr.un; omega
  have hu0 : (A.deeper (envOfC "_law_more" (defScope s__law_more) s.heap.objs.size T.a__law_more cdv)).units < cLine := by have := hr.un; omega
  have hu1 : (A.deeper (envOfC "_law_more" (defScope s__law_more) s.heap.objs.size T.a__law_more cdv)).units + 65 < cLine := by have := hr.un; omega
  match vs, hl with
  | [x0, x1, x2], _ =>
  obtain ⟨p0, rfl⟩ := hio 0 x0 rfl rfl
  exact ⟨[.io p0, .fz, .fz, .fz, .fz, .fz, .fz, .fz, .fz, .fz], (by intro i q h; simp [io0, SC.loop] at h; rw [h.1, h.2]; rfl), (vss_cons (vs_set hN rfl (by first | exact .inl rfl | exact .inr rfl) (ve_callTy call_list_of c_list (by rfl) T.z_list (by decide +kernel) (va_cons (va_bor (vb_slot (pv 2))) va_nil)) (.inr rfl) (ltB rfl) (memB rfl)) (vss_cons (vs_for hp rfl (vi_rng1 (by rfl) T.z_range (va_cons (va_val (ve_call0 (fe := v__law_draw) (pms := [.io, .brw]) (.inr rfl) (va_cons (va_io (pv 0)) (va_cons (va_bor (vb_ex ve_int)) va_nil)) rfl (nodupB rfl) rfl (fun h => pe_call (ok__law_draw T) (hr.mono (by decide)) (by rfl) T.m__law_draw T.F__law_draw.kp T.b__law_draw .nil pass0 h))) va_nil)) (vg_name hN rfl (by first | exact .inl rfl | exact .inr rfl) rfl (memB rfl)) (vss_one (vs_if (vt_chain (op_ltA hu0) (op_ltA hu0) f_lt f_lt (vb_ex ve_int) (vb_ex (ve_callB b_len c_len (by rfl) T.z_len (by decide +kernel) (va_cons (va_bor (vb_slot (pv 3))) va_nil))) (vb_ex ve_int)) (vss_cons (vs_asg (ve_ix ix_seq f_ix (vb_slot (pv 3)) (vb_ex (ve_call0 (fe := v__law_draw) (pms := [.io, .brw]) (.inr rfl) (va_cons (va_io (pv 0)) (va_cons (va_bor (vb_ex (ve_callB b_len c_len (by rfl) T.z_len (by decide +kernel) (va_cons (va_bor (vb_slot (pv 3))) va_nil)))) va_nil)) rfl (nodupB rfl) rfl (fun h => pe_call (ok__law_draw T) (hr.mono (by decide)) (by rfl) T.m__law_draw T.F__law_draw.kp T.b__law_draw .nil pass0 h))) (fun _ _ => rfl)) (vg_tup rfl (vgs_cons (vg_name hN rfl (by first | exact .inl rfl | exact .inr rfl) rfl (memB rfl)) (vgs_cons (vg_name hN rfl (by first | exact .inl rfl | exact .inr rfl) rfl (memB rfl)) vgs_nil)))) (vss_cons (vs_set hN rfl (by first | exact .inl rfl | exact .inr rfl) (ve_call0 (fe := v__law_draw) (pms := [.io, .brw]) (.inr rfl) (va_cons (va_io (pv 0)) (va_cons (va_bor (vb_ex (ve_callB b_len c_len (by rfl) T.z_len (by decide +kernel) (va_cons (va_bor (vb_slot (pv 1))) va_nil)))) va_nil)) rfl (nodupB rfl) rfl (fun h => pe_call (ok__law_draw T) (hr.mono (by decide)) (by rfl) T.m__law_draw T.F__law_draw.kp T.b__law_draw .nil pass0 h)) (.inl rfl) (ltB rfl) (memB rfl)) (vss_cons (vs_set hN rfl (by first | exact .inl rfl | exact .inr rfl) (ve_ix ix_seq f_ix (vb_ex (ve_lst (va_cons (va_val ve_int) (va_cons (va_val (ve_neg ve_int)) (va_cons (va_val ve_int) va_nil))) rfl)) (vb_ex (ve_call0 (fe := v__law_draw) (pms := [.io, .brw]) (.inr rfl) (va_cons (va_io (pv 0)) (va_cons (va_bor (vb_ex ve_int)) va_nil)) rfl (nodupB rfl) rfl (fun h => pe_call (ok__law_draw T) (hr.mono (by decide)) (by rfl) T.m__law_draw T.F__law_draw.kp T.b__law_draw .nil pass0 h))) (fun _ _ => rfl)) (.inl rfl) (ltB rfl) (memB rfl)) (vss_cons (vs_set hN rfl (by first | exact .inl rfl | exact .inr rfl) (ve_callB (call_max2 rfl) c_max2 (by rfl) T.z_max (by decide +kernel) (va_cons (va_bor (vb_ex ve_int)) (va_cons (va_bor (vb_ex (ve_callB (call_min2 rfl) c_min2 (by rfl) T.z_min (by decide +kernel) (va_cons (va_bor (vb_ex ve_int)) (va_cons (va_bor (vb_ex (ve_bin op_addA f_add (vb_ex (ve_ix ix_seq f_ix (vb_slot (pv 5)) (vb_slot (pv 7)) (fun _ _ => rfl))) (vb_slot (pv 8))))) va_nil))))) va_nil))) (.inl rfl) (ltB rfl) (memB rfl)) (vss_one (vs_expr (ve_mut m_insert PySem.F.slot_list_insert PySem.F.type_list_insert mt_insert (pv 3) (va_cons (va_val (ve_call0 (fe := v__law_draw) (pms := [.io, .brw]) (.inr rfl) (va_cons (va_io (pv 0)) (va_cons (va_bor (vb_ex (ve_bin op_addA f_add (vb_ex (ve_callB b_len c_len (by rfl) T.z_len (by decide +kernel) (va_cons (va_bor (vb_slot (pv 3))) va_nil))) (vb_ex ve_int)))) va_nil)) rfl (nodupB rfl) rfl (fun h => pe_call (ok__law_draw T) (hr.mono (by decide)) (by rfl) T.m__law_draw T.F__law_draw.kp T.b__law_draw .nil pass0 h))) (va_cons (va_val (ve_tup (va_cons (va_val (ve_coe (ve_bin op_addA f_add (vb_ex (ve_bin op_addA f_add (vb_ex (ve_slice (vb_slot (pv 5)) vpo_none (vpo_some (ve_fz (pv 7) rfl)))) (vb_ex (ve_tup (va_cons (va_val (ve_fz (pv 9) rfl)) va_nil) rfl)))) (vb_ex (ve_slice (vb_slot (pv 5)) (vpo_some (ve_coe (ve_bin op_addA f_add (vb_slot (pv 7)) (vb_ex ve_int)))) vpo_none))))) (va_cons (va_val (ve_fz (pv 6) rfl)) va_nil)) rfl)) va_nil)) rfl rfl rfl))))))) vss_nil))) (vss_one (vs_retOwn (js := [0]) (pv 3) rfl rfl (by intro i q h; simp [io0, SC.loop] at h; rw [h.1, h.2]; rfl) (by intro i q h; simp [io0, SC.loop] at h; rw [h.1]; decide)))))⟩
def b__law_says : Es := (sSeq (sIf (eTB (eBin dEq (.ex (eBin dIx (.slot 1) (.ex (eC (.int 1))))) (.ex (eC (.str [114, 101, 109, 111, 118, 101]))))) (sRet (eFn [.brw, .brw, .brw] v__law_ge [.bor (.slot 0), .bor (.slot 2), .bor (.ex (eBin dIx (.slot 1) (.ex (eC (.int 0)))))])) sNil) (sRet (eFn [.brw, .brw, .brw] v__law_ge [.bor (.slot 0), .bor (.ex (eBin dIx (.slot 1) (.ex (eC (.int 0))))), .bor (.slot 2)])))
def v__law_says : Fe := fun ds => noexn (fnEv [.brw, .brw, .brw] 3 b__law_says ds)
theorem ok__law_says (T : Top K mg) : FnOk P w K mg base CX0 4 T.a__law_says T.d__law_says ["sides", "ruling", "case"] (spFn K mg [.brw, .brw, .brw] .own v__law_says EX0) := by
  refine fn_ok0 (N := N__law_says) (As := List.range 3) T.F__law_says sc__law_says rfl (by decide) (fun cdv A outer s H vs E hr hl hio => ?_) (.inl rfl)
  have hp : PassesOwn (model P w) (A.deeper (envOfC "_law_says" (defScope s__law_says) s.heap.objs.size T.a__law_says cdv)) (envOfC "_law_says" (defScope s__law_says) s.heap.objs.size T.a__law_says cdv) (fun _ _ => False) := PassesOwn.never
  have hN := sc__law_says.nd
  have hu : (A.deeper (envOfC "_law_says" (defScope s__law_says) s.heap.objs.size T.a__law_says cdv)).units + 64 < cLine := by have := hr.un; omega
  have hu0 : (A.deeper (envOfC "_law_says" (defScope s__law_says) s.heap.objs.size T.a__law_says cdv)).units < cLine := by have := hr.un; omega
  have hu1 : (A.deeper (envOfC "_law_says" (defScope s__law_says) s.heap.objs.size T.a__law_says cdv)).units + 65 < cLine := by have := hr.un; omega
  match vs, hl with
  | [x0, x1, x2], _ =>
  exact ⟨[.fz, .fz, .fz], (by intro i q h; cases h), (vss_cons (vs_if (vt_cmp (op_eqA hu) f_eq (vb_ex (ve_ix ix_seq f_ix (vb_slot (pv 1)) (vb_ex ve_int) (fun _ _ => rfl))) (vb_ex (ve_str (l := [114, 101, 109, 111, 118, 101]) (by decide +kernel))) (nomark _)) (vss_one (vs_ret (ve_call0 (fe := v__law_ge) (pms := [.brw, .brw, .brw]) (.inl rfl) (va_cons (va_bor (vb_slot (pv 0))) (va_cons (va_bor (vb_slot (pv 2))) (va_cons (va_bor (vb_ex (ve_ix ix_seq f_ix (vb_slot (pv 1)) (vb_ex ve_int) (fun _ _ => rfl)))) va_nil))) rfl (nodupB rfl) rfl (fun h => pe_call (ok__law_ge T) (hr.mono (by decide)) (by rfl) T.m__law_ge T.F__law_ge.kp T.b__law_ge .nil pass0 h)) rfl (by intro i q h; cases h))) vss_nil) (vss_one (vs_ret (ve_call0 (fe := v__law_ge) (pms := [.brw, .brw, .brw]) (.inl rfl) (va_cons (va_bor (vb_slot (pv 0))) (va_cons (va_bor (vb_ex (ve_ix ix_seq f_ix (vb_slot (pv 1)) (vb_ex ve_int) (fun _ _ => rfl)))) (va_cons (va_bor (vb_slot (pv 2))) va_nil))) rfl (nodupB rfl) rfl (fun h => pe_call (ok__law_ge T) (hr.mono (by decide)) (by rfl) T.m__law_ge T.F__law_ge.kp T.b__law_ge .nil pass0 h)) rfl (by intro i q h; cases h))))⟩
def b__law_passed : Es := (sSeq (sFor (eRng [.val (eCall fLen [.bor (.slot 1)])]) (.name 3) (sIf (eAnd (eTB (eBin dNe (.slot 3) (.slot 2))) (eAnd (eTB (eBin dEq (.ex (eBin dIx (.ex (eBin dIx (.slot 1) (.slot 3))) (.ex (eC (.int 1))))) (.ex (eBin dIx (.ex (eBin dIx (.slot 1) (.slot 2))) (.ex (eC (.int 1))))))) (eTru (.ex (eFn [.brw, .brw, .brw] v__law_says [.bor (.slot 0), .bor (.ex (eBin dIx (.slot 1) (.slot 3))), .bor (.ex (eBin dIx (.ex (eBin dIx (.slot 1) (.slot 2))) (.ex (eC (.int 0)))))]))))) (sIf (eOr (eTB (eBin dNe (.ex (eBin dIx (.ex (eBin dIx (.slot 1) (.slot 3))) (.ex (eC (.int 0))))) (.ex (eBin dIx (.ex (eBin dIx (.slot 1) (.slot 2))) (.ex (eC (.int 0))))))) (eTB (eBin dLt (.slot 3) (.slot 2)))) (sRet (eUp (eC (.bl true)))) sNil) sNil)) (sRet (eUp (eC (.bl false)))))
def v__law_passed : Fe := fun ds => noexn (fnEv [.brw, .brw, .brw] 4 b__law_passed ds)
theorem ok__law_passed (T : Top K mg) : FnOk P w K mg base CX0 5 T.a__law_passed T.d__law_passed ["sides", "rulings", "k"] (spFn K mg [.brw, .brw, .brw] .own v__law_passed EX0) := by
  refine fn_ok0 (N := N__law_passed) (As := List.range 4) T.F__law_passed sc__law_passed rfl (by decide) (fun cdv A outer s H vs E hr hl hio => ?_) (.inl rfl)
  have hp : PassesOwn (model P w) (A.deeper (envOfC "_law_passed" (defScope s__law_passed) s.heap.objs.size T.a__law_passed cdv)) (envOfC "_law_passed" (defScope s__law_passed) s.heap.objs.size T.a__law_passed cdv) (fun _ _ => False) := PassesOwn.never
  have hN := sc__law_passed.nd
  have hu : (A.deeper (envOfC "_law_passed" (defScope s__law_passed) s.heap.objs.size T.a__law_passed cdv)).units + 64 < cLine := by have := hr.un; omega
  have hu0 : (A.deeper (envOfC "_law_passed" (defScope s__law_passed) s.heap.objs.size T.a__law_passed cdv)).units < cLine := by have := hr.un; omega
  have hu1 : (A.deeper (envOfC "_law_passed" (defScope s__law_passed) s.heap.objs.size T.a__law_passed cdv)).units + 65 < cLine := by have := hr.un; omega
  match vs, hl with
  | [x0, x1, x2], _ =>
  exact ⟨[.fz, .fz, .fz, .fz], (by intro i q h; cases h), (vss_cons (vs_for hp rfl (vi_rng1 (by rfl) T.z_range (va_cons (va_val (ve_callB b_len c_len (by rfl) T.z_len (by decide +kernel) (va_cons (va_bor (vb_slot (pv 1))) va_nil))) va_nil)) (vg_name hN rfl (by first | exact .inl rfl | exact .inr rfl) rfl (memB rfl)) (vss_one (vs_if (vt_bool (vw_and (vt_cmp (op_neA hu) f_ne (vb_slot (pv 3)) (vb_slot (pv 2)) (nomark _)) (vw_and (vt_cmp (op_eqA hu) f_eq (vb_ex (ve_ix ix_seq f_ix (vb_ex (ve_ix ix_seq f_ix (vb_slot (pv 1)) (vb_slot (pv 3)) (fun _ _ => rfl))) (vb_ex ve_int) (fun _ _ => rfl))) (vb_ex (ve_ix ix_seq f_ix (vb_ex (ve_ix ix_seq f_ix (vb_slot (pv 1)) (vb_slot (pv 2)) (fun _ _ => rfl))) (vb_ex ve_int) (fun _ _ => rfl))) (nomark _)) (vw_and1 (vt_tru (vb_ex (ve_call0 (fe := v__law_says) (pms := [.brw, .brw, .brw]) (.inl rfl) (va_cons (va_bor (vb_slot (pv 0))) (va_cons (va_bor (vb_ex (ve_ix ix_seq f_ix (vb_slot (pv 1)) (vb_slot (pv 3)) (fun _ _ => rfl)))) (va_cons (va_bor (vb_ex (ve_ix ix_seq f_ix (vb_ex (ve_ix ix_seq f_ix (vb_slot (pv 1)) (vb_slot (pv 2)) (fun _ _ => rfl))) (vb_ex ve_int) (fun _ _ => rfl)))) va_nil))) rfl (nodupB rfl) rfl (fun h => pe_call (ok__law_says T) (hr.mono (by decide)) (by rfl) T.m__law_says T.F__law_says.kp T.b__law_says .nil pass0 h)))))))) (vss_one (vs_if (vt_bool (vw_or (vt_cmp (op_neA hu) f_ne (vb_ex (ve_ix ix_seq f_ix (vb_ex (ve_ix ix_seq f_ix (vb_slot (pv 1)) (vb_slot (pv 3)) (fun _ _ => rfl))) (vb_ex ve_int) (fun _ _ => rfl))) (vb_ex (ve_ix ix_seq f_ix (vb_ex (ve_ix ix_seq f_ix (vb_slot (pv 1)) (vb_slot (pv 2)) (fun _ _ => rfl))) (vb_ex ve_int) (fun _ _ => rfl))) (nomark _)) (vw_or1 (vt_cmp (op_ltA hu0) f_lt (vb_slot (pv 3)) (vb_slot (pv 2)) (nomark _))))) (vss_one (vs_ret (ve_up ve_bl) rfl (by intro i q h; cases h))) vss_nil)) vss_nil))) (vss_one (vs_ret (ve_up ve_bl) rfl (by intro i q h; cases h))))⟩
def b__law_bound : Es := (sSeq (sSet 3 (eLst [])) (sSeq (sFor (eIt (eVar 2)) (.name 4) (sSeq (sSet 5 (eLC (eIt (eVar 1)) [6] (.name 6) (eTru (.ex (eFn [.brw, .brw, .brw] v__law_says [.bor (.slot 0), .bor (.slot 6), .bor (.slot 4)]))) (eBin dIx (.slot 6) (.ex (eC (.int 1)))))) (sExpr (eMut 3 mAppend [.val (eSl (.slot 5) none (some (eC (.int 1))))])))) (sRet (eOut [] 3))))
def v__law_bound : Fe := fun ds => noexn (fnEv [.brw, .brw, .brw] 7 b__law_bound ds)
theorem ok__law_bound (T : Top K mg) : FnOk P w K mg base CX0 5 T.a__law_bound T.d__law_bound ["sides", "rulings", "every"] (spFn K mg [.brw, .brw, .brw] .own v__law_bound EX0) := by
  refine fn_ok0 (N := N__law_bound) (As := List.range 7) T.F__law_bound sc__law_bound rfl (by decide) (fun cdv A outer s H vs E hr hl hio => ?_) (.inl rfl)
  have hp : PassesOwn (model P w) (A.deeper (envOfC "_law_bound" (defScope s__law_bound) s.heap.objs.size T.a__law_bound cdv)) (envOfC "_law_bound" (defScope s__law_bound) s.heap.objs.size T.a__law_bound cdv) (fun _ _ => False) := PassesOwn.never
  have hN := sc__law_bound.nd
  have hu : (A.deeper (envOfC "_law_bound" (defScope s__law_bound) s.heap.objs.size T.a__law_bound cdv)).units + 64 < cLine := by have := hr.un; omega
  have hu0 : (A.deeper (envOfC "_law_bound" (defScope s__law_bound) s.heap.objs.size T.a__law_bound cdv)).units < cLine := by have := hr.un; omega
  have hu1 : (A.deeper (envOfC "_law_bound" (defScope s__law_bound) s.heap.objs.size T.a__law_bound cdv)).units + 65 < cLine := by have := hr.un; omega
  match vs, hl with
  | [x0, x1, x2], _ =>
  exact ⟨[.fz, .fz, .fz, .fz, .fz, .fz, .fz], (by intro i q h; cases h), (vss_cons (vs_set hN rfl (by first | exact .inl rfl | exact .inr rfl) (ve_lst va_nil rfl) (.inr rfl) (ltB rfl) (memB rfl)) (vss_cons (vs_for hp rfl (vi_any (vb_brw (pv 2) rfl)) (vg_name hN rfl (by first | exact .inl rfl | exact .inr rfl) rfl (memB rfl)) (vss_cons (vs_setLc (m := .fz) rfl hN rfl rfl (sw_true rfl rfl rfl (by decide +kernel)) (own := [("ruling", 6)]) (vi_any (vb_brw (pv 1) rfl)) (blkOk_by (by kernel_rfl)) (allFz_ok rfl) (fun _ _ _ _ _ => (vg_name hN rfl (by first | exact .inl rfl | exact .inr rfl) rfl (memB rfl))) (fun _ _ _ _ _ => (vts_one (vt_tru (vb_ex (ve_call0 (fe := v__law_says) (pms := [.brw, .brw, .brw]) (.inl rfl) (va_cons (va_bor (vb_slot (pv 0))) (va_cons (va_bor (vb_slot (pv 6))) (va_cons (va_bor (vb_slot (pv 4))) va_nil))) rfl (nodupB rfl) rfl (fun h => pe_call (ok__law_says T) (hr.mono (by decide)) (by rfl) T.m__law_says T.F__law_says.kp T.b__law_says .nil pass0 h)))))) (fun _ _ _ _ _ => (ve_ix ix_seq f_ix (vb_slot (pv 6)) (vb_ex ve_int) (fun _ _ => rfl))) (.inr rfl) (ltB rfl) (memB rfl)) (vss_one (vs_expr (ve_mut m_append PySem.F.slot_list_append PySem.F.type_list_append mt_append (pv 3) (va_cons (va_val (ve_coe (ve_slice (vb_slot (pv 5)) vpo_none (vpo_some ve_int)))) va_nil) rfl rfl rfl))))) (vss_one (vs_retOwn (js := []) (pv 3) rfl rfl (by intro i q h; cases h) (by intro j q h; cases h)))))⟩
def b__law_asks : Es := (sSeq (sSet 2 (eMake "Book" [.fz, .brw] v_Book [.val (eVar 0), .bor (.slot 1)])) (sSeq (sSet 3 (eFn [.brw, .brw] v__law_cross [.bor (.slot 0), .bor (.slot 1)])) (sSeq (sTry 5 [4] ["Crossed"] (sSet 4 (eFn [.brw] v_least_book [.bor (.slot 2)])) (sRet (eUp (eAndV (eBin dNotN (.slot 3) (.ex (eC .non))) (eBin dEq (.ex (eTup [.val (eXf 5 ["Crossed"] "i"), .val (eXf 5 ["Crossed"] "j")])) (.slot 3)))))) (sSeq (sSet 6 (eLC (eRng [.val (eCall fLen [.bor (.slot 1)])]) [9] (.name 9) (eNot (eTru (.ex (eFn [.brw, .brw, .brw] v__law_passed [.bor (.slot 0), .bor (.slot 1), .bor (.slot 9)])))) (eBin dIx (.slot 1) (.slot 9)))) (sSeq (sIf (eOr (eTB (eBin dNotN (.slot 3) (.ex (eC .non)))) (eOr (eNot (eTru (.ex (eCall (fIsO [("Book", true)]) [.bor (.slot 4), .val eTy])))) (eOr (eTB (eBin dNe (.ex (eFld ["Book"] "sides" (eVar 4))) (.slot 0))) (eTB (eBin dNe (.ex (eCall fList [.bor (.ex (eFld ["Book"] "rulings" (eVar 4)))])) (.slot 6)))))) (sRet (eUp (eC (.bl false)))) sNil) (sSeq (sIf (eOr (eTB (eBin dNe (.ex (eCall fList [.bor (.ex (eFld ["Book"] "rulings" (eFn [.brw] v_least_book [.bor (.slot 4)])))])) (.slot 6))) (eTB (eBin dNe (.ex (eCall fList [.bor (.ex (eFld ["Book"] "rulings" (eVar 2)))])) (.slot 1)))) (sRet (eUp (eC (.bl false)))) sNil) (sSeq (sIf (eTB (eBin dLt (.ex (eCall fLen [.bor (.slot 0)])) (.ex (eC (.int 4))))) (sSeq (sSet 7 (eFn [.brw] v__law_cases [.bor (.slot 0)])) (sSeq (sSet 8 (eFn [.brw, .brw, .brw] v__law_bound [.bor (.slot 0), .bor (.slot 1), .bor (.slot 7)])) (sSeq (sIf (eTB (eBin dNe (.ex (eFn [.brw, .brw, .brw] v__law_bound [.bor (.slot 0), .bor (.slot 6), .bor (.slot 7)])) (.slot 8))) (sRet (eUp (eC (.bl false)))) sNil) (sFor (eRng [.val (eCall fLen [.bor (.slot 6)])]) (.name 9) (sIf (eTB (eBin dEq (.ex (eFn [.brw, .brw, .brw] v__law_bound [.bor (.slot 0), .bor (.ex (eBin dAdd (.ex (eSl (.slot 6) none (some (eVar 9)))) (.ex (eSl (.slot 6) (some (eBin dAdd (.slot 9) (.ex (eC (.int 1))))) none)))), .bor (.slot 7)])) (.slot 8))) (sRet (eUp (eC (.bl false)))) sNil))))) sNil) (sRet (eUp (eC (.bl true)))))))))))
def v__law_asks : Fe := fun ds => fnEv [.fz, .brw] 10 b__law_asks ds
theorem ok__law_asks (T : Top K mg) : FnOk P w K mg base (L2N.CX P w) 9 T.a__law_asks T.d__law_asks ["sides", "rulings"] (spFn K mg [.fz, .brw] .own v__law_asks (EXW K mg)) := by
  refine fn_okX (N := N__law_asks) (As := List.range 10) T.F__law_asks sc__law_asks rfl (by decide) (fun cdv A outer s H vs E hr hl hio => ?_) (.inl rfl)
  have hp : PassesOwn (model P w) (cxOf (L2N.CX P w) P w K mg base N__law_asks "_law_asks" (defScope s__law_asks) T.a__law_asks cdv A outer s H E).A (cxOf (L2N.CX P w) P w K mg base N__law_asks "_law_asks" (defScope s__law_asks) T.a__law_asks cdv A outer s H E).env (cxOf (L2N.CX P w) P w K mg base N__law_asks "_law_asks" (defScope s__law_asks) T.a__law_asks cdv A outer s H E).xe := L2.passes_of (X := (cxOf (L2N.CX P w) P w K mg base N__law_asks "_law_asks" (defScope s__law_asks) T.a__law_asks cdv A outer s H E)) (K := fun e s2 => L2N.CX P w outer H s E e s2) (E₁ := fun e s2 => L2N.CX P w outer H s E e s2) rfl
  have tk : L2N.Takes (cxOf (L2N.CX P w) P w K mg base N__law_asks "_law_asks" (defScope s__law_asks) T.a__law_asks cdv A outer s H E) (fun cls d _ H => E cls d H) := L2N.takes_of (X := (cxOf (L2N.CX P w) P w K mg base N__law_asks "_law_asks" (defScope s__law_asks) T.a__law_asks cdv A outer s H E)) (E₁ := fun e s2 => L2N.CX P w outer H s E e s2) rfl rfl rfl rfl
  have hN := sc__law_asks.nd
  have hu : (A.deeper (envOfC "_law_asks" (defScope s__law_asks) s.heap.objs.size T.a__law_asks cdv)).units + 64 < cLine := by have := hr.un; omega
  have hu0 : (A.deeper (envOfC "_law_asks" (defScope s__law_asks) s.heap.objs.size T.a__law_asks cdv)).units < cLine := by have := hr.un; omega
  have hu1 : (A.deeper (envOfC "_law_asks" (defScope s__law_asks) s.heap.objs.size T.a__law_asks cdv)).units + 65 < cLine := by have := hr.un; omega
  match vs, hl with
  | [x0, x1], _ =>
  exact ⟨[.fz, .fz, .fz, .fz, .fz, .fz, .fz, .fz, .fz, .fz], (by intro i q h; cases h), (vss_cons (vs_set hN rfl (by first | exact .inl rfl | exact .inr rfl) (ve_coe (ve_makeX (fe := v_Book) (pms := [.fz, .brw]) (nm := "Book") T.g_Book (va_cons (va_val (ve_fz (pv 0) rfl)) (va_cons (va_bor (vb_slot (pv 1))) va_nil)) rfl rfl rfl (fun h => pe_mk T.k_Book (ok_Book T) (hr.mono (by decide)) (by rfl) T.g_Book T.b_Book (fun σ => L2N.passAt tk σ) h))) (.inl rfl) (ltB rfl) (memB rfl)) (vss_cons (vs_set hN rfl (by first | exact .inl rfl | exact .inr rfl) (ve_coe (ve_call0 (fe := v__law_cross) (pms := [.brw, .brw]) (.inl rfl) (va_cons (va_bor (vb_slot (pv 0))) (va_cons (va_bor (vb_slot (pv 1))) va_nil)) rfl (nodupB rfl) rfl (fun h => pe_call (ok__law_cross T) (hr.mono (by decide)) (by rfl) T.m__law_cross T.F__law_cross.kp T.b__law_cross .nil pass0 h))) (.inl rfl) (ltB rfl) (memB rfl)) (vss_cons (vs_try (As1 := [4]) (ws := [4]) (cs := ["Crossed"]) (i := 5) rfl rfl rfl rfl hN rfl rfl ⟨by rfl, by decide, .inl T.g_Crossed⟩ takesN0 (tab_cons T.x_Crossed.gm T.em_Crossed_Crossed tab_nil) (fun W1 pn xe tk hp => (vss_one (vs_set hN rfl (by first | exact .inl rfl | exact .inr rfl) (ve_coe (ve_callX (fe := v_least_book) (pms := [.brw]) (.inl rfl) (va_cons (va_bor (vb_slot (pv 2))) va_nil) rfl (nodupB rfl) rfl (fun h => pe_callS (ok_least_book T) (hr.mono (by decide)) (by rfl) T.m_least_book T.F_least_book.kp T.b_least_book (fun σ => L2N.passAt tk σ) h))) (.inl rfl) (ltB rfl) (memB rfl)))) (fun a oe cls d pn hz hf => (vss_one (vs_ret (ve_up (ve_and (ve_cmp op_notN f_notN (vb_slot (pv 3)) (vb_ex ve_non) (nomark _)) (ve_one (ve_cmp (op_eqA hu) f_eq (vb_ex (ve_tup (va_cons (va_val (ve_xf (f := "i") hz hf rfl (xtab_cons T.x_Crossed.gm T.xf_Crossed (T.x_Crossed.no _ (by simp)) xtab_nil) (pv 5))) (va_cons (va_val (ve_xf (f := "j") hz hf rfl (xtab_cons T.x_Crossed.gm T.xf_Crossed (T.x_Crossed.no _ (by simp)) xtab_nil) (pv 5))) va_nil)) rfl)) (vb_slot (pv 3)) (nomark _))))) rfl (by intro i q h; cases h))))) (vss_cons (vs_setLc (m := .fz) rfl hN rfl rfl (sw_true rfl rfl rfl (by decide +kernel)) (own := [("k", 9)]) (vi_rng1 (by rfl) T.z_range (va_cons (va_val (ve_callB b_len c_len (by rfl) T.z_len (by decide +kernel) (va_cons (va_bor (vb_slot (pv 1))) va_nil))) va_nil)) (blkOk_by (by kernel_rfl)) (allFz_ok rfl) (fun _ _ _ _ _ => (vg_name hN rfl (by first | exact .inl rfl | exact .inr rfl) rfl (memB rfl))) (fun _ _ _ _ _ => (vts_one (vt_not (vt_tru (vb_ex (ve_call0 (fe := v__law_passed) (pms := [.brw, .brw, .brw]) (.inl rfl) (va_cons (va_bor (vb_slot (pv 0))) (va_cons (va_bor (vb_slot (pv 1))) (va_cons (va_bor (vb_slot (pv 9))) va_nil))) rfl (nodupB rfl) rfl (fun h => pe_call (ok__law_passed T) (hr.mono (by decide)) (by rfl) T.m__law_passed T.F__law_passed.kp T.b__law_passed .nil pass0 h))))))) (fun _ _ _ _ _ => (ve_ix ix_seq f_ix (vb_slot (pv 1)) (vb_slot (pv 9)) (fun _ _ => rfl))) (.inr rfl) (ltB rfl) (memB rfl)) (vss_cons (vs_if (vt_bool (vw_or (vt_cmp op_notN f_notN (vb_slot (pv 3)) (vb_ex ve_non) (nomark _)) (vw_or (vt_not (vt_tru (vb_ex (ve_isO (tb := [("Book", true)]) T.oT (otab_cons T.ty_Book (by unfold PySem.W.kitOne; rw [if_pos (beq_self_eq_true _)]) otab_nil) (fun t h => kit_bt T.o_Book.cl.hd T.tt_Book h) (vb_slot (pv 4)) (fun h => pe_callB call_isi (by rfl) T.z_isinstance (by decide +kernel) (pa_cons h (pa_cons (pe_glob (v := .ref T.C_Book) (by rfl) T.g_Book rfl) pa_nil))))))) (vw_or (vt_cmp (op_neA hu) f_ne (vb_ex (ve_fld (f := "sides") (hf_sides T) (vb_ex (ve_fz (pv 4) rfl)))) (vb_slot (pv 0)) (nomark _)) (vw_or1 (vt_cmp (op_neA hu) f_ne (vb_ex (ve_callTy call_list_of c_list (by rfl) T.z_list (by decide +kernel) (va_cons (va_bor (vb_ex (ve_fld (f := "rulings") (hf_rulings T) (vb_ex (ve_fz (pv 4) rfl))))) va_nil))) (vb_slot (pv 6)) (nomark _))))))) (vss_one (vs_ret (ve_up ve_bl) rfl (by intro i q h; cases h))) vss_nil) (vss_cons (vs_if (vt_bool (vw_or (vt_cmp (op_neA hu) f_ne (vb_ex (ve_callTy call_list_of c_list (by rfl) T.z_list (by decide +kernel) (va_cons (va_bor (vb_ex (ve_fld (f := "rulings") (hf_rulings T) (vb_ex (ve_callX (fe := v_least_book) (pms := [.brw]) (.inl rfl) (va_cons (va_bor (vb_slot (pv 4))) va_nil) rfl (nodupB rfl) rfl (fun h => pe_callS (ok_least_book T) (hr.mono (by decide)) (by rfl) T.m_least_book T.F_least_book.kp T.b_least_book (fun σ => L2N.passAt tk σ) h)))))) va_nil))) (vb_slot (pv 6)) (nomark _)) (vw_or1 (vt_cmp (op_neA hu) f_ne (vb_ex (ve_callTy call_list_of c_list (by rfl) T.z_list (by decide +kernel) (va_cons (va_bor (vb_ex (ve_fld (f := "rulings") (hf_rulings T) (vb_ex (ve_fz (pv 2) rfl))))) va_nil))) (vb_slot (pv 1)) (nomark _))))) (vss_one (vs_ret (ve_up ve_bl) rfl (by intro i q h; cases h))) vss_nil) (vss_cons (vs_if (vt_cmp (op_ltA hu0) f_lt (vb_ex (ve_callB b_len c_len (by rfl) T.z_len (by decide +kernel) (va_cons (va_bor (vb_slot (pv 0))) va_nil))) (vb_ex ve_int) (nomark _)) (vss_cons (vs_set hN rfl (by first | exact .inl rfl | exact .inr rfl) (ve_call0 (fe := v__law_cases) (pms := [.brw]) (.inr rfl) (va_cons (va_bor (vb_slot (pv 0))) va_nil) rfl (nodupB rfl) rfl (fun h => pe_call (ok__law_cases T) (hr.mono (by decide)) (by rfl) T.m__law_cases T.F__law_cases.kp T.b__law_cases .nil pass0 h)) (.inl rfl) (ltB rfl) (memB rfl)) (vss_cons (vs_set hN rfl (by first | exact .inl rfl | exact .inr rfl) (ve_coe (ve_call0 (fe := v__law_bound) (pms := [.brw, .brw, .brw]) (.inl rfl) (va_cons (va_bor (vb_slot (pv 0))) (va_cons (va_bor (vb_slot (pv 1))) (va_cons (va_bor (vb_slot (pv 7))) va_nil))) rfl (nodupB rfl) rfl (fun h => pe_call (ok__law_bound T) (hr.mono (by decide)) (by rfl) T.m__law_bound T.F__law_bound.kp T.b__law_bound .nil pass0 h))) (.inl rfl) (ltB rfl) (memB rfl)) (vss_cons (vs_if (vt_cmp (op_neA hu) f_ne (vb_ex (ve_call0 (fe := v__law_bound) (pms := [.brw, .brw, .brw]) (.inl rfl) (va_cons (va_bor (vb_slot (pv 0))) (va_cons (va_bor (vb_slot (pv 6))) (va_cons (va_bor (vb_slot (pv 7))) va_nil))) rfl (nodupB rfl) rfl (fun h => pe_call (ok__law_bound T) (hr.mono (by decide)) (by rfl) T.m__law_bound T.F__law_bound.kp T.b__law_bound .nil pass0 h))) (vb_slot (pv 8)) (nomark _)) (vss_one (vs_ret (ve_up ve_bl) rfl (by intro i q h; cases h))) vss_nil) (vss_one (vs_for hp rfl (vi_rng1 (by rfl) T.z_range (va_cons (va_val (ve_callB b_len c_len (by rfl) T.z_len (by decide +kernel) (va_cons (va_bor (vb_slot (pv 6))) va_nil))) va_nil)) (vg_name hN rfl (by first | exact .inl rfl | exact .inr rfl) rfl (memB rfl)) (vss_one (vs_if (vt_cmp (op_eqA hu) f_eq (vb_ex (ve_call0 (fe := v__law_bound) (pms := [.brw, .brw, .brw]) (.inl rfl) (va_cons (va_bor (vb_slot (pv 0))) (va_cons (va_bor (vb_ex (ve_bin op_addA f_add (vb_ex (ve_slice (vb_slot (pv 6)) vpo_none (vpo_some (ve_fz (pv 9) rfl)))) (vb_ex (ve_slice (vb_slot (pv 6)) (vpo_some (ve_coe (ve_bin op_addA f_add (vb_slot (pv 9)) (vb_ex ve_int)))) vpo_none))))) (va_cons (va_bor (vb_slot (pv 7))) va_nil))) rfl (nodupB rfl) rfl (fun h => pe_call (ok__law_bound T) (hr.mono (by decide)) (by rfl) T.m__law_bound T.F__law_bound.kp T.b__law_bound .nil pass0 h))) (vb_slot (pv 8)) (nomark _)) (vss_one (vs_ret (ve_up ve_bl) rfl (by intro i q h; cases h))) vss_nil))))))) vss_nil) (vss_one (vs_ret (ve_up ve_bl) rfl (by intro i q h; cases h))))))))))⟩
def b_law : Es := (sSeq (sSet 1 (eFn [.brw] v__law_feed [.bor (.slot 0)])) (sSeq (sFor (eRng [.val (eC (.int 2))]) (.name 2) (sSeq (sAsg (.tup [(.name 3), (.name 4)]) (eFn [.io] v__law_some_book [.io 1])) (sIf (eNot (eTru (.ex (eFn [.fz, .brw] v__law_asks [.val (eVar 3), .bor (.ex (eFn [.io, .brw, .brw] v__law_more [.io 1, .bor (.slot 3), .bor (.slot 4)]))])))) (sRet (eC (.bl false))) sNil))) (sSeq (sSet 4 (eLst [.val (eTup [.val (eTup [.val (eC (.int 2)), .val (eC (.int 1))]), .val (eC (.str [114, 101, 109, 111, 118, 101]))]), .val (eTup [.val (eTup [.val (eC (.int 1)), .val (eC (.int 1))]), .val (eC (.str [114, 101, 109, 111, 118, 101]))]), .val (eTup [.val (eTup [.val (eC (.int 1)), .val (eC (.int 1))]), .val (eC (.str [114, 101, 109, 111, 118, 101]))]), .val (eTup [.val (eTup [.val (eC (.int 0)), .val (eC (.int 2))]), .val (eC (.str [107, 101, 101, 112]))])])) (sRet (eBin dEq (.ex (eCall fList [.bor (.ex (eFld ["Book"] "rulings" (eFn [.brw] v_least_book [.bor (.ex (eMake "Book" [.fz, .brw] v_Book [.val (eC (.str [43, 45])), .bor (.slot 4)]))])))])) (.ex (eLst [.val (eTup [.val (eTup [.val (eC (.int 1)), .val (eC (.int 1))]), .val (eC (.str [114, 101, 109, 111, 118, 101]))]), .val (eTup [.val (eTup [.val (eC (.int 0)), .val (eC (.int 2))]), .val (eC (.str [107, 101, 101, 112]))])])))))))
def v_law : Fe := fun ds => fnEv [.brw] 5 b_law ds
theorem ok_law (T : Top K mg) : FnOk P w K mg base (L2N.CX P w) 10 T.a_law T.d_law ["script"] (spFn K mg [.brw] .fz v_law (EXW K mg)) := by
  refine fn_okX (N := N_law) (As := List.range 5) T.F_law sc_law rfl (by decide) (fun cdv A outer s H vs E hr hl hio => ?_) (.inr rfl)
  have hp : PassesOwn (model P w) (cxOf (L2N.CX P w) P w K mg base N_law "law" (defScope s_law) T.a_law cdv A outer s H E).A (cxOf (L2N.CX P w) P w K mg base N_law "law" (defScope s_law) T.a_law cdv A outer s H E).env (cxOf (L2N.CX P w) P w K mg base N_law "law" (defScope s_law) T.a_law cdv A outer s H E).xe := L2.passes_of (X := (cxOf (L2N.CX P w) P w K mg base N_law "law" (defScope s_law) T.a_law cdv A outer s H E)) (K := fun e s2 => L2N.CX P w outer H s E e s2) (E₁ := fun e s2 => L2N.CX P w outer H s E e s2) rfl
  have tk : L2N.Takes (cxOf (L2N.CX P w) P w K mg base N_law "law" (defScope s_law) T.a_law cdv A outer s H E) (fun cls d _ H => E cls d H) := L2N.takes_of (X := (cxOf (L2N.CX P w) P w K mg base N_law "law" (defScope s_law) T.a_law cdv A outer s H E)) (E₁ := fun e s2 => L2N.CX P w outer H s E e s2) rfl rfl rfl rfl
  have hN := sc_law.nd
  have hu : (A.deeper (envOfC "law" (defScope s_law) s.heap.objs.size T.a_law cdv)).units + 64 < cLine := by have := hr.un; omega
  have hu0 : (A.deeper (envOfC "law" (defScope s_law) s.heap.objs.size T.a_law cdv)).units < cLine := by have := hr.un; omega
  have hu1 : (A.deeper (envOfC "law" (defScope s_law) s.heap.objs.size T.a_law cdv)).units + 65 < cLine := by have := hr.un; omega
  match vs, hl with
  | [x0], _ =>
  exact ⟨[.fz, .fz, .fz, .fz, .fz], (by intro i q h; cases h), (vss_cons (vs_set hN rfl (by first | exact .inl rfl | exact .inr rfl) (ve_call0 (fe := v__law_feed) (pms := [.brw]) (.inl rfl) (va_cons (va_bor (vb_slot (pv 0))) va_nil) rfl (nodupB rfl) rfl (fun h => pe_call (ok__law_feed T) (hr.mono (by decide)) (by rfl) T.m__law_feed T.F__law_feed.kp T.b__law_feed .nil pass0 h)) (.inr rfl) (ltB rfl) (memB rfl)) (vss_cons (vs_for hp rfl (vi_rng1 (by rfl) T.z_range (va_cons (va_val ve_int) va_nil)) (vg_name hN rfl (by first | exact .inl rfl | exact .inr rfl) rfl (memB rfl)) (vss_cons (vs_asg (ve_coe (ve_call0 (fe := v__law_some_book) (pms := [.io]) (.inl rfl) (va_cons (va_io (pv 1)) va_nil) rfl (nodupB rfl) rfl (fun h => pe_call (ok__law_some_book T) (hr.mono (by decide)) (by rfl) T.m__law_some_book T.F__law_some_book.kp T.b__law_some_book .nil pass0 h))) (vg_tup rfl (vgs_cons (vg_name hN rfl (by first | exact .inl rfl | exact .inr rfl) rfl (memB rfl)) (vgs_cons (vg_name hN rfl (by first | exact .inl rfl | exact .inr rfl) rfl (memB rfl)) vgs_nil)))) (vss_one (vs_if (vt_not (vt_tru (vb_ex (ve_callX (fe := v__law_asks) (pms := [.fz, .brw]) (.inl rfl) (va_cons (va_val (ve_fz (pv 3) rfl)) (va_cons (va_bor (vb_ex (ve_call0 (fe := v__law_more) (pms := [.io, .brw, .brw]) (.inl rfl) (va_cons (va_io (pv 1)) (va_cons (va_bor (vb_slot (pv 3))) (va_cons (va_bor (vb_slot (pv 4))) va_nil))) rfl (nodupB rfl) rfl (fun h => pe_call (ok__law_more T) (hr.mono (by decide)) (by rfl) T.m__law_more T.F__law_more.kp T.b__law_more .nil pass0 h)))) va_nil)) rfl (nodupB rfl) rfl (fun h => pe_callS (ok__law_asks T) (hr.mono (by decide)) (by rfl) T.m__law_asks T.F__law_asks.kp T.b__law_asks (fun σ => L2N.passAt tk σ) h))))) (vss_one (vs_ret ve_bl rfl (by intro i q h; cases h))) vss_nil)))) (vss_cons (vs_set hN rfl (by first | exact .inl rfl | exact .inr rfl) (ve_coe (ve_lst (va_cons (va_val (ve_tup (va_cons (va_val (ve_tup (va_cons (va_val ve_int) (va_cons (va_val ve_int) va_nil)) rfl)) (va_cons (va_val (ve_str (l := [114, 101, 109, 111, 118, 101]) (by decide +kernel))) va_nil)) rfl)) (va_cons (va_val (ve_tup (va_cons (va_val (ve_tup (va_cons (va_val ve_int) (va_cons (va_val ve_int) va_nil)) rfl)) (va_cons (va_val (ve_str (l := [114, 101, 109, 111, 118, 101]) (by decide +kernel))) va_nil)) rfl)) (va_cons (va_val (ve_tup (va_cons (va_val (ve_tup (va_cons (va_val ve_int) (va_cons (va_val ve_int) va_nil)) rfl)) (va_cons (va_val (ve_str (l := [114, 101, 109, 111, 118, 101]) (by decide +kernel))) va_nil)) rfl)) (va_cons (va_val (ve_tup (va_cons (va_val (ve_tup (va_cons (va_val ve_int) (va_cons (va_val ve_int) va_nil)) rfl)) (va_cons (va_val (ve_str (l := [107, 101, 101, 112]) (by decide +kernel))) va_nil)) rfl)) va_nil)))) rfl)) (.inl rfl) (ltB rfl) (memB rfl)) (vss_one (vs_ret (ve_cmp (op_eqA hu) f_eq (vb_ex (ve_callTy call_list_of c_list (by rfl) T.z_list (by decide +kernel) (va_cons (va_bor (vb_ex (ve_fld (f := "rulings") (hf_rulings T) (vb_ex (ve_callX (fe := v_least_book) (pms := [.brw]) (.inl rfl) (va_cons (va_bor (vb_ex (ve_makeX (fe := v_Book) (pms := [.fz, .brw]) (nm := "Book") T.g_Book (va_cons (va_val (ve_str (l := [43, 45]) (by decide +kernel))) (va_cons (va_bor (vb_slot (pv 4))) va_nil)) rfl rfl rfl (fun h => pe_mk T.k_Book (ok_Book T) (hr.mono (by decide)) (by rfl) T.g_Book T.b_Book (fun σ => L2N.passAt tk σ) h)))) va_nil) rfl (nodupB rfl) rfl (fun h => pe_callS (ok_least_book T) (hr.mono (by decide)) (by rfl) T.m_least_book T.F_least_book.kp T.b_least_book (fun σ => L2N.passAt tk σ) h)))))) va_nil))) (vb_ex (ve_lst (va_cons (va_val (ve_tup (va_cons (va_val (ve_tup (va_cons (va_val ve_int) (va_cons (va_val ve_int) va_nil)) rfl)) (va_cons (va_val (ve_str (l := [114, 101, 109, 111, 118, 101]) (by decide +kernel))) va_nil)) rfl)) (va_cons (va_val (ve_tup (va_cons (va_val (ve_tup (va_cons (va_val ve_int) (va_cons (va_val ve_int) va_nil)) rfl)) (va_cons (va_val (ve_str (l := [107, 101, 101, 112]) (by decide +kernel))) va_nil)) rfl)) va_nil)) rfl)) (nomark _)) rfl (by intro i q h; cases h))))))⟩
end
end G_k06


set_option Elab.async false
set_option linter.all false
set_option maxRecDepth 100000
set_option maxHeartbeats 4000000
namespace G_k06
open PySem PySem.Spec PyProof.Rows L2 VL
section
local macro_rules | `(tactic| and_intros) => `(tactic| try conv => arg 2; simp only [sq_nil, sq_pass, sq_brk, sq_cont, sq_expr, sq_ret, sq_retN, sq_set, sq_aug, sq_asg, sq_seq, sq_if, sq_for, sq_while, sq_try, sq_raise, sq_par, sq_setIx, sq_setF, sSetF_q, eFld_q, eMake_q, eEnumT_q, sq_augIx,
  sRaise_q, sPar_q, sSetIx_q, sAugIx_q, sl_if, sl_for, sl_while, sNil_ap, sPass_ap, sBrk_ap, sCont_ap, sExpr_ap, sRet_ap, sRetN_ap, sSet_ap, sAug_ap, sAsg_ap,
  eVarB_q, eUp_q, eLend_ap, nc_non', nc_int', nc_bl', nc_str', nc_tup', eTB_q, eNeg_q, eNotV_q, eAndV_q, eOrV_q, runI_n, runI_q, eTup_q, eLst_q, eChain_q, eFn_q, eFn0_ap, eMut_q, eMth_q, eXf_q, eIsE_q, eEnum_q, eZipS_q, eLC_q, eSl_ap, eNotT_ap, eTru_ap, eAnd_ap, eOr_ap, eNot_ap, eIf_ap, eBin_ap, eCall_ap, eC_ap, eVar_ap, eTy_ap, tYesE_ap, eRng_ap, eIt_ap,
  Opd.run_slot, Opd.run_ex, Opd.fin_slot, Opd.fin_ex, Arg.run_bor, Arg.run_val, Arg.run_io, Arg.fin_bor, Arg.fin_val, Arg.fin_io, Arg.runs_nil, Arg.runs_cons, Arg.fins_nil, Arg.fins_cons,
  gv_z, gv_s, optS, tg_name, tg_2, tg_3, Res.bind_ok, Res.bind_assoc, exnR_bind, List.set_cons_zero, List.set_cons_succ, wipeE_nil, wipeE_cons, backE_nil, backE_cons, List.getElem?_cons_zero, List.getElem?_cons_succ, Option.getD_some, List.getD_cons_zero, List.getD_cons_succ, List.nil_append, toI_int, toB_bl, toL_lst, un2_tup, un3_tup, un4_tup, enumR_lst, enumR_str,
  ioCells_io, ioCells_fz, ioCells_brw, ioCells_nil, Bool.and_true, ioSl_io, ioSl_bor, ioSl_val, ioSl_nil, setOuts_cons, setOuts_nil, ckB_true, lenG_0, lenG_1, lenG_2, lenG_3, lenG_4, lenG_5, lenG_6, lenG_7, lenG_8, lenG_9, lenG_10, lenG_11, lenG_12, lenG_13, lenG_14, lenG_15, lenG_16, lenG_17, lenG_18, lenG_19, lenG_20, lenG_21, lenG_22, lenG_23, lenG_24, lenG_25, lenG_26, lenG_27, lenG_28, lenG_29, lenG_30, lenG_31, lenG_32, lenG_33, lenG_34, lenG_35, lenG_36, lenG_37, lenG_38, lenG_39, lenG_40, eOut_0, eOut_1, eOut_2])
def m_is_whole (value : D) : Res (D) := noexn (
  (opt (fIsi "int" [value, .non])).bind fun t1 =>
  (toB t1).bind fun b2 =>
  (if b2 = true then (
    (opt (fIsi "bool" [value, .non])).bind fun t3 =>
    (toB t3).bind fun b4 =>
    .ok (.bl (!b4)) : Res (D)) else (
    .ok (.bl false) : Res (D))).bind fun t5 =>
  (nc t5).bind fun _ =>
  .ok t5)
theorem e_is_whole (value : D) : Sim (m_is_whole value) (v_is_whole [value]) (fun r q => q = (r, [])) := by
  unfold m_is_whole v_is_whole
  refine Sim.noexn (sim_fn (RR := RR0) (os := fun v : D => (v, ([] : List D))) (E := [some value]) rfl rr0 ?_)
  unfold b_is_whole
  and_intros
  refine Sim.same fun t1 => ?_
  refine Sim.same fun b2 => ?_
  first | refine Sim.bind (P := fun a b => b = (a, [some value])) (Sim.ite ?_ ?_) ?_ | refine Sim.bindR (P := fun a b => b = (a, [some value])) (Sim.ite ?_ ?_) ?_
  · refine Sim.same fun t3 => ?_
    refine Sim.same fun b4 => ?_
    exact ⟨_, rfl, rfl⟩
  · exact ⟨_, rfl, rfl⟩
  rintro t5 _ rfl
  and_intros
  refine Sim.same fun _ => ?_
  exact fR rfl
def m_is_answer (value : D) : Res (D) := noexn (
  (opt (fIsi "str" [value, .non])).bind fun t1 =>
  (toB t1).bind fun b2 =>
  (if b2 = true then (
    (opt (dIn value (.tup [.str [114, 101, 109, 111, 118, 101], .str [107, 101, 101, 112]]))).bind fun t3 =>
    .ok (t3) : Res (D)) else (
    .ok (.bl false) : Res (D))).bind fun t4 =>
  (nc t4).bind fun _ =>
  .ok t4)
theorem e_is_answer (value : D) : Sim (m_is_answer value) (v_is_answer [value]) (fun r q => q = (r, [])) := by
  unfold m_is_answer v_is_answer
  refine Sim.noexn (sim_fn (RR := RR0) (os := fun v : D => (v, ([] : List D))) (E := [some value]) rfl rr0 ?_)
  unfold b_is_answer
  and_intros
  refine Sim.same fun t1 => ?_
  refine Sim.same fun b2 => ?_
  first | refine Sim.bind (P := fun a b => b = (a, [some value])) (Sim.ite ?_ ?_) ?_ | refine Sim.bindR (P := fun a b => b = (a, [some value])) (Sim.ite ?_ ?_) ?_
  · refine Sim.same fun t3 => ?_
    exact ⟨_, rfl, rfl⟩
  · exact ⟨_, rfl, rfl⟩
  rintro t4 _ rfl
  and_intros
  refine Sim.same fun _ => ?_
  exact fR rfl
abbrev P_check_sides_1 (u0 : Option D) (s : Unit) (ρ : VL.Env) : Prop := ∃ w1 w2, ρ = [u0, w1, w2]
def m_check_sides_b1 (d : D) (s : Unit) : Res (Unit) :=
  (un2 d).bind fun p8 =>
  (opt (dNotIn p8.2 (.str [43, 45]))).bind fun t9 =>
  (toB t9).bind fun b10 =>
  if b10 = true then (
    exnR "BadSides" ["at"] [p8.1])
  else (
    .ok ())
theorem e_check_sides_b1 (u0 : Option D) (u1 u2 : Option D) (d : D) (s : Unit) : Sim (m_check_sides_b1  d s) ((opt (bindT (.tup [.name 1, .name 2]) d [u0, u1, u2])).bind (sIf (eTB (eBin dNotIn (.slot 2) (.ex (eC (.str [43, 45]))))) (sRaise "BadSides" ["at"] [.val (eVar 1)]) sNil)) (QN (P_check_sides_1 u0)) := by
  unfold m_check_sides_b1
  and_intros
  refine Sim.same fun p8 => ?_
  refine Sim.same fun t9 => ?_
  refine Sim.same fun b10 => ?_
  refine Sim.ite ?_ ?_
  · refine Sim.app ?_
    and_intros
    exact sim_exnR
  · refine Sim.app ?_
    and_intros
    exact fNn ⟨_, _, rfl⟩
def m_check_sides (sides : D) : Res (D) :=
  (opt (fLen [sides])).bind fun t1 =>
  (opt (dLe (.int 1) t1)).bind fun t2 =>
  (toB t2).bind fun b3 =>
  (if b3 = true then (
    (opt (dLe t1 (.int 5))).bind fun t4 =>
    .ok (t4) : Res (D)) else (
    .ok (.bl false) : Res (D))).bind fun t5 =>
  (toB t5).bind fun b6 =>
  if (!b6) = true then (
    exnR "BadSides" ["at"] [.int (-1)])
  else (
    (enumR sides).bind fun l7 =>
    (forN l7 () m_check_sides_b1).bind fun s11 =>
    .ok .non)
theorem e_check_sides (sides : D) : Sim (m_check_sides sides) (v_check_sides [sides]) (fun r q => q = (r, [])) := by
  unfold m_check_sides v_check_sides
  refine (sim_fn (RR := RR0) (os := fun v : D => (v, ([] : List D))) (E := [some sides, none, none]) rfl rr0 ?_)
  unfold b_check_sides
  and_intros
  refine Sim.same fun t1 => ?_
  refine Sim.same fun t2 => ?_
  refine Sim.same fun b3 => ?_
  first | refine Sim.bind (P := fun a b => b = (a, [some sides, none, none])) (Sim.ite ?_ ?_) ?_ | refine Sim.bindR (P := fun a b => b = (a, [some sides, none, none])) (Sim.ite ?_ ?_) ?_
  · refine Sim.same fun t4 => ?_
    exact ⟨_, rfl, rfl⟩
  · exact ⟨_, rfl, rfl⟩
  rintro t5 _ rfl
  and_intros
  refine Sim.same fun b6 => ?_
  refine Sim.ite ?_ ?_
  · refine Sim.app ?_
    and_intros
    exact sim_exnR
  · refine Sim.app ?_
    and_intros
    refine Sim.app ?_
    and_intros
    refine Sim.same fun l7 => ?_
    refine Sim.bind (sim_forN (P := P_check_sides_1 (some sides)) (fun d s ρ h => ?_) ?_) ?_
    · obtain ⟨u1, u2, rfl⟩ := h; exact e_check_sides_b1 ..
    · exact ⟨_, _, rfl⟩
    intro s11 fl hfl
    refine sim_aftN hfl (fun ρ h => ?_)
    obtain ⟨u1, u2, rfl⟩ := h
    and_intros
    exact fRn rfl
abbrev P_is_case_1 (u0 u1 : Option D) (s : Unit) (ρ : VL.Env) : Prop := ∃ w2, ρ = [u0, u1, w2]
def m_is_case_b1 (d : D) (s : Unit) : Res (Stp (Unit) (D)) :=
  (m_is_whole d).bind fun t9 =>
  (opt (truD t9)).bind fun b10 =>
  (if (!b10) = true then (
      .ok (true) : Res (Bool)) else (
      (opt (dLe (.int 0) d)).bind fun t11 =>
      (toB t11).bind fun b12 =>
      (if b12 = true then (
          (opt (dLe d (.int 3))).bind fun t13 =>
          .ok (t13) : Res (D)) else (
          .ok (.bl false) : Res (D))).bind fun t14 =>
      (toB t14).bind fun b15 =>
      .ok (!b15) : Res (Bool))).bind fun b16 =>
  if b16 = true then (
    .ok (.ret (.bl false)))
  else (
    .ok (.next ()))
theorem e_is_case_b1 (u0 u1 : Option D) (u2 : Option D) (d : D) (s : Unit) : Sim (m_is_case_b1  d s) ((opt (bindT (.name 2) d [u0, u1, u2])).bind (sIf (eOr (eNot (eTru (.ex (eFn [.brw] v_is_whole [.bor (.slot 2)])))) (eNot (eTB (eChain dLe dLe (.ex (eC (.int 0))) (.slot 2) (.ex (eC (.int 3))))))) (sRet (eUp (eC (.bl false)))) sNil)) (QS RR0 (P_is_case_1 u0 u1)) := by
  unfold m_is_case_b1
  and_intros
  refine Sim.bind (e_is_whole d) ?_
  rintro t9 _ rfl
  and_intros
  refine Sim.same fun b10 => ?_
  first | refine Sim.bind (P := fun a b => b = (a, [u0, u1, some d])) (Sim.ite ?_ ?_) ?_ | refine Sim.bindR (P := fun a b => b = (a, [u0, u1, some d])) (Sim.ite ?_ ?_) ?_
  · exact ⟨_, rfl, rfl⟩
  · refine Sim.same fun t11 => ?_
    refine Sim.same fun b12 => ?_
    first | refine Sim.bind (P := fun a b => b = (a, [u0, u1, some d])) (Sim.ite ?_ ?_) ?_ | refine Sim.bindR (P := fun a b => b = (a, [u0, u1, some d])) (Sim.ite ?_ ?_) ?_
    · refine Sim.same fun t13 => ?_
      exact ⟨_, rfl, rfl⟩
    · exact ⟨_, rfl, rfl⟩
    rintro t14 _ rfl
    and_intros
    refine Sim.same fun b15 => ?_
    exact ⟨_, rfl, rfl⟩
  rintro b16 _ rfl
  and_intros
  refine Sim.ite ?_ ?_
  · refine Sim.app ?_
    and_intros
    exact fSr rfl
  · refine Sim.app ?_
    and_intros
    exact fSn ⟨_, rfl⟩
def m_is_case (sides value : D) : Res (D) := noexn (
  (opt (fIsi "tuple" [value, .non])).bind fun t1 =>
  (opt (truD t1)).bind fun b2 =>
  (if (!b2) = true then (
    .ok (true) : Res (Bool)) else (
    (opt (fLen [value])).bind fun t3 =>
    (opt (fLen [sides])).bind fun t4 =>
    (opt (dNe t3 t4)).bind fun t5 =>
    (toB t5).bind fun b6 =>
    .ok (b6) : Res (Bool))).bind fun b7 =>
  if b7 = true then (
    .ok (.bl false))
  else (
    (opt (itD value)).bind fun l8 =>
    (forB l8 () m_is_case_b1).bind fun r => aftF r fun s17 =>
    .ok (.bl true)))
theorem e_is_case (sides value : D) : Sim (m_is_case sides value) (v_is_case [sides, value]) (fun r q => q = (r, [])) := by
  unfold m_is_case v_is_case
  refine Sim.noexn (sim_fn (RR := RR0) (os := fun v : D => (v, ([] : List D))) (E := [some sides, some value, none]) rfl rr0 ?_)
  unfold b_is_case
  and_intros
  refine Sim.same fun t1 => ?_
  refine Sim.same fun b2 => ?_
  first | refine Sim.bind (P := fun a b => b = (a, [some sides, some value, none])) (Sim.ite ?_ ?_) ?_ | refine Sim.bindR (P := fun a b => b = (a, [some sides, some value, none])) (Sim.ite ?_ ?_) ?_
  · exact ⟨_, rfl, rfl⟩
  · refine Sim.same fun t3 => ?_
    refine Sim.same fun t4 => ?_
    refine Sim.same fun t5 => ?_
    refine Sim.same fun b6 => ?_
    exact ⟨_, rfl, rfl⟩
  rintro b7 _ rfl
  and_intros
  refine Sim.ite ?_ ?_
  · refine Sim.app ?_
    and_intros
    exact fR rfl
  · refine Sim.app ?_
    and_intros
    refine Sim.app ?_
    and_intros
    refine Sim.same fun l8 => ?_
    refine Sim.bind (sim_forB (P := P_is_case_1 (some sides) (some value)) (RR := RR0) (fun d s ρ h => ?_) ?_) ?_
    · obtain ⟨u2, rfl⟩ := h; exact e_is_case_b1 ..
    · exact ⟨_, rfl⟩
    intro r fl hfl
    refine sim_aftF hfl (fun s17 ρ h => ?_)
    obtain ⟨u2, rfl⟩ := h
    and_intros
    exact fR rfl
abbrev P_at_least_1 (u0 u1 u2 : Option D) (s : Unit) (ρ : VL.Env) : Prop := ∃ w3 w4 w5, ρ = [u0, u1, u2, w3, w4, w5]
def m_at_least_b1 (d : D) (s : Unit) : Res (Stp (Unit) (D)) :=
  (un3 d).bind fun p2 =>
  (opt (dEq p2.1 (.str [43]))).bind fun t3 =>
  (toB t3).bind fun b4 =>
  (if b4 = true then (
      (opt (dLt p2.2.1 p2.2.2)).bind fun t5 =>
      (toB t5).bind fun b6 =>
      .ok (b6) : Res (Bool)) else (
      .ok (false) : Res (Bool))).bind fun b7 =>
  if b7 = true then (
    .ok (.ret (.bl false)))
  else (
    (opt (dEq p2.1 (.str [45]))).bind fun t8 =>
    (toB t8).bind fun b9 =>
    (if b9 = true then (
          (opt (dGt p2.2.1 p2.2.2)).bind fun t10 =>
          (toB t10).bind fun b11 =>
          .ok (b11) : Res (Bool)) else (
          .ok (false) : Res (Bool))).bind fun b12 =>
    if b12 = true then (
      .ok (.ret (.bl false)))
    else (
      .ok (.next ())))
theorem e_at_least_b1 (u0 u1 u2 : Option D) (u3 u4 u5 : Option D) (d : D) (s : Unit) : Sim (m_at_least_b1  d s) ((opt (bindT (.tup [.name 3, .name 4, .name 5]) d [u0, u1, u2, u3, u4, u5])).bind (sSeq (sIf (eAnd (eTB (eBin dEq (.slot 3) (.ex (eC (.str [43]))))) (eTB (eBin dLt (.slot 4) (.slot 5)))) (sRet (eUp (eC (.bl false)))) sNil) (sIf (eAnd (eTB (eBin dEq (.slot 3) (.ex (eC (.str [45]))))) (eTB (eBin dGt (.slot 4) (.slot 5)))) (sRet (eUp (eC (.bl false)))) sNil))) (QS RR0 (P_at_least_1 u0 u1 u2)) := by
  unfold m_at_least_b1
  and_intros
  refine Sim.same fun p2 => ?_
  refine Sim.same fun t3 => ?_
  refine Sim.same fun b4 => ?_
  first | refine Sim.bind (P := fun a b => b = (a, [u0, u1, u2, some p2.1, some p2.2.1, some p2.2.2])) (Sim.ite ?_ ?_) ?_ | refine Sim.bindR (P := fun a b => b = (a, [u0, u1, u2, some p2.1, some p2.2.1, some p2.2.2])) (Sim.ite ?_ ?_) ?_
  · refine Sim.same fun t5 => ?_
    refine Sim.same fun b6 => ?_
    exact ⟨_, rfl, rfl⟩
  · exact ⟨_, rfl, rfl⟩
  rintro b7 _ rfl
  and_intros
  refine Sim.ite ?_ ?_
  · refine Sim.app ?_
    and_intros
    exact fSr rfl
  · refine Sim.app ?_
    and_intros
    refine Sim.app ?_
    and_intros
    refine Sim.same fun t8 => ?_
    refine Sim.same fun b9 => ?_
    first | refine Sim.bind (P := fun a b => b = (a, [u0, u1, u2, some p2.1, some p2.2.1, some p2.2.2])) (Sim.ite ?_ ?_) ?_ | refine Sim.bindR (P := fun a b => b = (a, [u0, u1, u2, some p2.1, some p2.2.1, some p2.2.2])) (Sim.ite ?_ ?_) ?_
    · refine Sim.same fun t10 => ?_
      refine Sim.same fun b11 => ?_
      exact ⟨_, rfl, rfl⟩
    · exact ⟨_, rfl, rfl⟩
    rintro b12 _ rfl
    and_intros
    refine Sim.ite ?_ ?_
    · refine Sim.app ?_
      and_intros
      exact fSr rfl
    · refine Sim.app ?_
      and_intros
      exact fSn ⟨_, _, _, rfl⟩
def m_at_least (sides c d_ : D) : Res (D) := noexn (
  (zipR3 sides c d_).bind fun l1 =>
  (forB l1 () m_at_least_b1).bind fun r => aftF r fun s13 =>
  .ok (.bl true))
theorem e_at_least (sides c d_ : D) : Sim (m_at_least sides c d_) (v_at_least [sides, c, d_]) (fun r q => q = (r, [])) := by
  unfold m_at_least v_at_least
  refine Sim.noexn (sim_fn (RR := RR0) (os := fun v : D => (v, ([] : List D))) (E := [some sides, some c, some d_, none, none, none]) rfl rr0 ?_)
  unfold b_at_least
  and_intros
  refine Sim.same fun l1 => ?_
  refine Sim.bind (sim_forB (P := P_at_least_1 (some sides) (some c) (some d_)) (RR := RR0) (fun d s ρ h => ?_) ?_) ?_
  · obtain ⟨u3, u4, u5, rfl⟩ := h; exact e_at_least_b1 ..
  · exact ⟨_, _, _, rfl⟩
  intro r fl hfl
  refine sim_aftF hfl (fun s13 ρ h => ?_)
  obtain ⟨u3, u4, u5, rfl⟩ := h
  and_intros
  exact fR rfl
def m_is_ruling (sides value : D) : Res (D) := noexn (
  (opt (fIsi "tuple" [value, .non])).bind fun t1 =>
  (opt (truD t1)).bind fun b2 =>
  (if (!b2) = true then (
    .ok (true) : Res (Bool)) else (
    (opt (fLen [value])).bind fun t3 =>
    (opt (dNe t3 (.int 2))).bind fun t4 =>
    (toB t4).bind fun b5 =>
    .ok (b5) : Res (Bool))).bind fun b6 =>
  if b6 = true then (
    .ok (.bl false))
  else (
    (opt (dIx value (.int 0))).bind fun t7 =>
    (m_is_case sides t7).bind fun t8 =>
    (toB t8).bind fun b9 =>
    (if b9 = true then (
        (opt (dIx value (.int 1))).bind fun t10 =>
        (m_is_answer t10).bind fun t11 =>
        .ok (t11) : Res (D)) else (
        .ok (.bl false) : Res (D))).bind fun t12 =>
    .ok t12))
theorem e_is_ruling (sides value : D) : Sim (m_is_ruling sides value) (v_is_ruling [sides, value]) (fun r q => q = (r, [])) := by
  unfold m_is_ruling v_is_ruling
  refine Sim.noexn (sim_fn (RR := RR0) (os := fun v : D => (v, ([] : List D))) (E := [some sides, some value]) rfl rr0 ?_)
  unfold b_is_ruling
  and_intros
  refine Sim.same fun t1 => ?_
  refine Sim.same fun b2 => ?_
  first | refine Sim.bind (P := fun a b => b = (a, [some sides, some value])) (Sim.ite ?_ ?_) ?_ | refine Sim.bindR (P := fun a b => b = (a, [some sides, some value])) (Sim.ite ?_ ?_) ?_
  · exact ⟨_, rfl, rfl⟩
  · refine Sim.same fun t3 => ?_
    refine Sim.same fun t4 => ?_
    refine Sim.same fun b5 => ?_
    exact ⟨_, rfl, rfl⟩
  rintro b6 _ rfl
  and_intros
  refine Sim.ite ?_ ?_
  · refine Sim.app ?_
    and_intros
    exact fR rfl
  · refine Sim.app ?_
    and_intros
    refine Sim.app ?_
    and_intros
    refine Sim.same fun t7 => ?_
    refine Sim.bind (e_is_case sides t7) ?_
    rintro t8 _ rfl
    and_intros
    refine Sim.same fun b9 => ?_
    first | refine Sim.bind (P := fun a b => b = (a, [some sides, some value])) (Sim.ite ?_ ?_) ?_ | refine Sim.bindR (P := fun a b => b = (a, [some sides, some value])) (Sim.ite ?_ ?_) ?_
    · refine Sim.same fun t10 => ?_
      refine Sim.bind (e_is_answer t10) ?_
      rintro t11 _ rfl
      and_intros
      exact ⟨_, rfl, rfl⟩
    · exact ⟨_, rfl, rfl⟩
    rintro t12 _ rfl
    and_intros
    exact fR rfl
def m_indexes_of_c1 (answer : D) (d : D) : Res (Option D) :=
  (un2 d).bind fun p3 =>
  (opt (dIx p3.2 (.int 1))).bind fun t4 =>
  (opt (dEq t4 answer)).bind fun t5 =>
  (toB t5).bind fun b6 =>
  if b6 = true then (
    .ok (some p3.1))
  else .ok none
theorem e_indexes_of_c1 (answer : D) (u0 : Option D) (d : D) : Sim (m_indexes_of_c1 answer d) (lcIt [2, 3] (.tup [.name 2, .name 3]) (eTB (eBin dEq (.ex (eBin dIx (.slot 3) (.ex (eC (.int 1))))) (.slot 1))) (eVar 2) d [u0, some answer, none, none]) (fun a b => b = (a, [u0, some answer, none, none])) := by
  unfold m_indexes_of_c1 lcIt
  and_intros
  refine Sim.same fun p3 => ?_
  refine Sim.same fun t4 => ?_
  refine Sim.same fun t5 => ?_
  refine Sim.same fun b6 => ?_
  refine Sim.ite ?_ ?_
  · exact ⟨_, rfl, rfl⟩
  · exact ⟨_, rfl, rfl⟩
def m_indexes_of (book answer : D) : Res (D) := noexn (
  (fldR ["Book"] "rulings" book).bind fun t1 =>
  (enumTR t1).bind fun l2 =>
  (lenG l2).bind fun _ =>
  (mFil l2 (m_indexes_of_c1 answer)).bind fun l7 =>
  .ok (.lst l7))
theorem e_indexes_of (book answer : D) : Sim (m_indexes_of book answer) (v_indexes_of [book, answer]) (fun r q => q = (r, [])) := by
  unfold m_indexes_of v_indexes_of
  refine Sim.noexn (sim_fn (RR := RR0) (os := fun v : D => (v, ([] : List D))) (E := [some book, some answer, none, none]) rfl rr0 ?_)
  unfold b_indexes_of
  and_intros
  refine Sim.same fun t1 => ?_
  refine Sim.same fun l2 => ?_
  refine Sim.same fun _ => ?_
  refine Sim.bind (sim_fil (fun d => e_indexes_of_c1 ..)) ?_
  rintro l7 _ rfl
  and_intros
  exact fR rfl
def m_crosses (book i j : D) : Res (D) := noexn (
  (fldR ["Book"] "rulings" book).bind fun t1 =>
  (opt (dIx t1 i)).bind fun t2 =>
  (un2 t2).bind fun p3 =>
  (fldR ["Book"] "rulings" book).bind fun t4 =>
  (opt (dIx t4 j)).bind fun t5 =>
  (un2 t5).bind fun p6 =>
  (opt (dEq p3.2 (.str [114, 101, 109, 111, 118, 101]))).bind fun t7 =>
  (toB t7).bind fun b8 =>
  (if b8 = true then (
    (opt (dEq p6.2 (.str [107, 101, 101, 112]))).bind fun t9 =>
    (toB t9).bind fun b10 =>
    (if b10 = true then (
        (fldR ["Book"] "sides" book).bind fun t11 =>
        (m_at_least t11 p6.1 p3.1).bind fun t12 =>
        .ok (t12) : Res (D)) else (
        .ok (.bl false) : Res (D))).bind fun t13 =>
    .ok (t13) : Res (D)) else (
    .ok (.bl false) : Res (D))).bind fun t14 =>
  .ok t14)
theorem e_crosses (book i j : D) : Sim (m_crosses book i j) (v_crosses [book, i, j]) (fun r q => q = (r, [])) := by
  unfold m_crosses v_crosses
  refine Sim.noexn (sim_fn (RR := RR0) (os := fun v : D => (v, ([] : List D))) (E := [some book, some i, some j, none, none, none, none]) rfl rr0 ?_)
  unfold b_crosses
  and_intros
  refine Sim.same fun t1 => ?_
  refine Sim.same fun t2 => ?_
  refine Sim.same fun p3 => ?_
  refine Sim.app ?_
  and_intros
  refine Sim.same fun t4 => ?_
  refine Sim.same fun t5 => ?_
  refine Sim.same fun p6 => ?_
  refine Sim.app ?_
  and_intros
  refine Sim.same fun t7 => ?_
  refine Sim.same fun b8 => ?_
  first | refine Sim.bind (P := fun a b => b = (a, [some book, some i, some j, some p3.1, some p3.2, some p6.1, some p6.2])) (Sim.ite ?_ ?_) ?_ | refine Sim.bindR (P := fun a b => b = (a, [some book, some i, some j, some p3.1, some p3.2, some p6.1, some p6.2])) (Sim.ite ?_ ?_) ?_
  · refine Sim.same fun t9 => ?_
    refine Sim.same fun b10 => ?_
    first | refine Sim.bind (P := fun a b => b = (a, [some book, some i, some j, some p3.1, some p3.2, some p6.1, some p6.2])) (Sim.ite ?_ ?_) ?_ | refine Sim.bindR (P := fun a b => b = (a, [some book, some i, some j, some p3.1, some p3.2, some p6.1, some p6.2])) (Sim.ite ?_ ?_) ?_
    · refine Sim.same fun t11 => ?_
      refine Sim.bind (e_at_least t11 p6.1 p3.1) ?_
      rintro t12 _ rfl
      and_intros
      exact ⟨_, rfl, rfl⟩
    · exact ⟨_, rfl, rfl⟩
    rintro t13 _ rfl
    and_intros
    exact ⟨_, rfl, rfl⟩
  · exact ⟨_, rfl, rfl⟩
  rintro t14 _ rfl
  and_intros
  exact fR rfl
abbrev P_first_cross_1 (book : D) (s : Unit) (ρ : VL.Env) : Prop := ∃ w1 w2, ρ = [some book, w1, w2]
abbrev P_first_cross_2 (book i : D) (s : Unit) (ρ : VL.Env) : Prop := ∃ w2, ρ = [some book, some i, w2]
def m_first_cross_b2 (book i : D) (d : D) (s : Unit) : Res (Stp (Unit) (D)) :=
  (m_crosses book i d).bind fun t5 =>
  (opt (truD t5)).bind fun b6 =>
  if b6 = true then (
    .ok (.ret (.tup [i, d])))
  else (
    .ok (.next ()))
theorem e_first_cross_b2 (book i : D) (u2 : Option D) (d : D) (s : Unit) : Sim (m_first_cross_b2 book i d s) ((opt (bindT (.name 2) d [some book, some i, u2])).bind (sIf (eTru (.ex (eFn [.brw, .brw, .brw] v_crosses [.bor (.slot 0), .bor (.slot 1), .bor (.slot 2)]))) (sRet (eUp (eTup [.val (eVar 1), .val (eVar 2)]))) sNil)) (QS RR0 (P_first_cross_2 book i)) := by
  unfold m_first_cross_b2
  and_intros
  refine Sim.bind (e_crosses book i d) ?_
  rintro t5 _ rfl
  and_intros
  refine Sim.same fun b6 => ?_
  refine Sim.ite ?_ ?_
  · refine Sim.app ?_
    and_intros
    exact fSr rfl
  · refine Sim.app ?_
    and_intros
    exact fSn ⟨_, rfl⟩
def m_first_cross_b1 (book : D) (d : D) (s : Unit) : Res (Stp (Unit) (D)) :=
  (m_indexes_of book (.str [107, 101, 101, 112])).bind fun t3 =>
  (opt (itD t3)).bind fun l4 =>
  (forB l4 () (m_first_cross_b2 book d)).bind fun r => aftL r fun s7 =>
  .ok (.next ())
theorem e_first_cross_b1 (book : D) (u1 u2 : Option D) (d : D) (s : Unit) : Sim (m_first_cross_b1 book d s) ((opt (bindT (.name 1) d [some book, u1, u2])).bind (sFor (eIt (eFn [.brw, .brw] v_indexes_of [.bor (.slot 0), .bor (.ex (eC (.str [107, 101, 101, 112])))])) (.name 2) (sIf (eTru (.ex (eFn [.brw, .brw, .brw] v_crosses [.bor (.slot 0), .bor (.slot 1), .bor (.slot 2)]))) (sRet (eUp (eTup [.val (eVar 1), .val (eVar 2)]))) sNil))) (QS RR0 (P_first_cross_1 book)) := by
  unfold m_first_cross_b1
  and_intros
  refine Sim.bind (e_indexes_of book (.str [107, 101, 101, 112])) ?_
  rintro t3 _ rfl
  and_intros
  refine Sim.same fun l4 => ?_
  refine Sim.bind (sim_forB (P := P_first_cross_2 book d) (RR := RR0) (fun d s ρ h => ?_) ?_) ?_
  · obtain ⟨u2, rfl⟩ := h; exact e_first_cross_b2 ..
  · exact ⟨_, rfl⟩
  intro r fl hfl
  refine sim_aftL hfl (fun s7 ρ h => ?_)
  obtain ⟨u2, rfl⟩ := h
  and_intros
  exact fSn ⟨_, _, rfl⟩
def m_first_cross (book : D) : Res (D) := noexn (
  (m_indexes_of book (.str [114, 101, 109, 111, 118, 101])).bind fun t1 =>
  (opt (itD t1)).bind fun l2 =>
  (forB l2 () (m_first_cross_b1 book)).bind fun r => aftF r fun s8 =>
  .ok .non)
theorem e_first_cross (book : D) : Sim (m_first_cross book) (v_first_cross [book]) (fun r q => q = (r, [])) := by
  unfold m_first_cross v_first_cross
  refine Sim.noexn (sim_fn (RR := RR0) (os := fun v : D => (v, ([] : List D))) (E := [some book, none, none]) rfl rr0 ?_)
  unfold b_first_cross
  and_intros
  refine Sim.bind (e_indexes_of book (.str [114, 101, 109, 111, 118, 101])) ?_
  rintro t1 _ rfl
  and_intros
  refine Sim.same fun l2 => ?_
  refine Sim.bind (sim_forB (P := P_first_cross_1 book) (RR := RR0) (fun d s ρ h => ?_) ?_) ?_
  · obtain ⟨u1, u2, rfl⟩ := h; exact e_first_cross_b1 ..
  · exact ⟨_, _, rfl⟩
  intro r fl hfl
  refine sim_aftF hfl (fun s8 ρ h => ?_)
  obtain ⟨u1, u2, rfl⟩ := h
  and_intros
  exact fR rfl
def m_check_sound (book : D) : Res (D) :=
  (m_first_cross book).bind fun pair1 =>
  (opt (dNotN pair1 .non)).bind fun t2 =>
  (toB t2).bind fun b3 =>
  if b3 = true then (
    (opt (dIx pair1 (.int 0))).bind fun t4 =>
    (opt (dIx pair1 (.int 1))).bind fun t5 =>
    exnR "Crossed" ["i", "j"] [t4, t5])
  else (
    .ok .non)
theorem e_check_sound (book : D) : Sim (m_check_sound book) (v_check_sound [book]) (fun r q => q = (r, [])) := by
  unfold m_check_sound v_check_sound
  refine (sim_fn (RR := RR0) (os := fun v : D => (v, ([] : List D))) (E := [some book, none]) rfl rr0 ?_)
  unfold b_check_sound
  and_intros
  refine Sim.bind (e_first_cross book) ?_
  rintro pair1 _ rfl
  and_intros
  refine Sim.app ?_
  and_intros
  refine Sim.same fun t2 => ?_
  refine Sim.same fun b3 => ?_
  refine Sim.ite ?_ ?_
  · refine Sim.app ?_
    and_intros
    refine Sim.same fun t4 => ?_
    refine Sim.same fun t5 => ?_
    exact sim_exnR
  · refine Sim.app ?_
    and_intros
    exact fRn rfl
def m_says (sides ruling case : D) : Res (D) := noexn (
  (un2 ruling).bind fun p1 =>
  (opt (dEq p1.2 (.str [114, 101, 109, 111, 118, 101]))).bind fun t2 =>
  (toB t2).bind fun b3 =>
  if b3 = true then (
    (m_at_least sides case p1.1).bind fun t4 =>
    .ok t4)
  else (
    (m_at_least sides p1.1 case).bind fun t5 =>
    .ok t5))
theorem e_says (sides ruling case : D) : Sim (m_says sides ruling case) (v_says [sides, ruling, case]) (fun r q => q = (r, [])) := by
  unfold m_says v_says
  refine Sim.noexn (sim_fn (RR := RR0) (os := fun v : D => (v, ([] : List D))) (E := [some sides, some ruling, some case, none, none]) rfl rr0 ?_)
  unfold b_says
  and_intros
  refine Sim.same fun p1 => ?_
  refine Sim.app ?_
  and_intros
  refine Sim.same fun t2 => ?_
  refine Sim.same fun b3 => ?_
  refine Sim.ite ?_ ?_
  · refine Sim.app ?_
    and_intros
    refine Sim.bind (e_at_least sides case p1.1) ?_
    rintro t4 _ rfl
    and_intros
    exact fR rfl
  · refine Sim.app ?_
    and_intros
    refine Sim.app ?_
    and_intros
    refine Sim.bind (e_at_least sides p1.1 case) ?_
    rintro t5 _ rfl
    and_intros
    exact fR rfl
abbrev P_is_passed_1 (book k case answer : D) (s : Unit) (ρ : VL.Env) : Prop := ∃ w4 w5, ρ = [some book, some k, some case, some answer, w4, w5]
def m_is_passed_b1 (book k case answer : D) (d : D) (s : Unit) : Res (Stp (Unit) (D)) :=
  (un2 d).bind fun p6 =>
  (opt (dNe p6.1 k)).bind fun t7 =>
  (toB t7).bind fun b8 =>
  (if b8 = true then (
      (opt (dIx p6.2 (.int 1))).bind fun t9 =>
      (opt (dEq t9 answer)).bind fun t10 =>
      (toB t10).bind fun b11 =>
      (if b11 = true then (
          (fldR ["Book"] "sides" book).bind fun t12 =>
          (m_says t12 p6.2 case).bind fun t13 =>
          (opt (truD t13)).bind fun b14 =>
          .ok (b14) : Res (Bool)) else (
          .ok (false) : Res (Bool))).bind fun b15 =>
      .ok (b15) : Res (Bool)) else (
      .ok (false) : Res (Bool))).bind fun b16 =>
  if b16 = true then (
    (opt (dIx p6.2 (.int 0))).bind fun t17 =>
    (opt (dNe t17 case)).bind fun t18 =>
    (toB t18).bind fun b19 =>
    (if b19 = true then (
          .ok (true) : Res (Bool)) else (
          (opt (dLt p6.1 k)).bind fun t20 =>
          (toB t20).bind fun b21 =>
          .ok (b21) : Res (Bool))).bind fun b22 =>
    if b22 = true then (
      .ok (.ret (.bl true)))
    else (
      .ok (.next ())))
  else (
    .ok (.next ()))
theorem e_is_passed_b1 (book k case answer : D) (u4 u5 : Option D) (d : D) (s : Unit) : Sim (m_is_passed_b1 book k case answer d s) ((opt (bindT (.tup [.name 4, .name 5]) d [some book, some k, some case, some answer, u4, u5])).bind (sIf (eAnd (eTB (eBin dNe (.slot 4) (.slot 1))) (eAnd (eTB (eBin dEq (.ex (eBin dIx (.slot 5) (.ex (eC (.int 1))))) (.slot 3))) (eTru (.ex (eFn [.brw, .fz, .brw] v_says [.bor (.ex (eFld ["Book"] "sides" (eVar 0))), .val (eVar 5), .bor (.slot 2)]))))) (sIf (eOr (eTB (eBin dNe (.ex (eBin dIx (.slot 5) (.ex (eC (.int 0))))) (.slot 2))) (eTB (eBin dLt (.slot 4) (.slot 1)))) (sRet (eUp (eC (.bl true)))) sNil) sNil)) (QS RR0 (P_is_passed_1 book k case answer)) := by
  unfold m_is_passed_b1
  and_intros
  refine Sim.same fun p6 => ?_
  refine Sim.same fun t7 => ?_
  refine Sim.same fun b8 => ?_
  first | refine Sim.bind (P := fun a b => b = (a, [some book, some k, some case, some answer, some p6.1, some p6.2])) (Sim.ite ?_ ?_) ?_ | refine Sim.bindR (P := fun a b => b = (a, [some book, some k, some case, some answer, some p6.1, some p6.2])) (Sim.ite ?_ ?_) ?_
  · refine Sim.same fun t9 => ?_
    refine Sim.same fun t10 => ?_
    refine Sim.same fun b11 => ?_
    first | refine Sim.bind (P := fun a b => b = (a, [some book, some k, some case, some answer, some p6.1, some p6.2])) (Sim.ite ?_ ?_) ?_ | refine Sim.bindR (P := fun a b => b = (a, [some book, some k, some case, some answer, some p6.1, some p6.2])) (Sim.ite ?_ ?_) ?_
    · refine Sim.same fun t12 => ?_
      refine Sim.bind (e_says t12 p6.2 case) ?_
      rintro t13 _ rfl
      and_intros
      refine Sim.same fun b14 => ?_
      exact ⟨_, rfl, rfl⟩
    · exact ⟨_, rfl, rfl⟩
    rintro b15 _ rfl
    and_intros
    exact ⟨_, rfl, rfl⟩
  · exact ⟨_, rfl, rfl⟩
  rintro b16 _ rfl
  and_intros
  refine Sim.ite ?_ ?_
  · refine Sim.app ?_
    and_intros
    refine Sim.same fun t17 => ?_
    refine Sim.same fun t18 => ?_
    refine Sim.same fun b19 => ?_
    first | refine Sim.bind (P := fun a b => b = (a, [some book, some k, some case, some answer, some p6.1, some p6.2])) (Sim.ite ?_ ?_) ?_ | refine Sim.bindR (P := fun a b => b = (a, [some book, some k, some case, some answer, some p6.1, some p6.2])) (Sim.ite ?_ ?_) ?_
    · exact ⟨_, rfl, rfl⟩
    · refine Sim.same fun t20 => ?_
      refine Sim.same fun b21 => ?_
      exact ⟨_, rfl, rfl⟩
    rintro b22 _ rfl
    and_intros
    refine Sim.ite ?_ ?_
    · refine Sim.app ?_
      and_intros
      exact fSr rfl
    · refine Sim.app ?_
      and_intros
      exact fSn ⟨_, _, rfl⟩
  · refine Sim.app ?_
    and_intros
    exact fSn ⟨_, _, rfl⟩
def m_is_passed (book k : D) : Res (D) := noexn (
  (fldR ["Book"] "rulings" book).bind fun t1 =>
  (opt (dIx t1 k)).bind fun t2 =>
  (un2 t2).bind fun p3 =>
  (fldR ["Book"] "rulings" book).bind fun t4 =>
  (enumTR t4).bind fun l5 =>
  (forB l5 () (m_is_passed_b1 book k p3.1 p3.2)).bind fun r => aftF r fun s23 =>
  .ok (.bl false))
theorem e_is_passed (book k : D) : Sim (m_is_passed book k) (v_is_passed [book, k]) (fun r q => q = (r, [])) := by
  unfold m_is_passed v_is_passed
  refine Sim.noexn (sim_fn (RR := RR0) (os := fun v : D => (v, ([] : List D))) (E := [some book, some k, none, none, none, none]) rfl rr0 ?_)
  unfold b_is_passed
  and_intros
  refine Sim.same fun t1 => ?_
  refine Sim.same fun t2 => ?_
  refine Sim.same fun p3 => ?_
  refine Sim.app ?_
  and_intros
  refine Sim.same fun t4 => ?_
  refine Sim.same fun l5 => ?_
  refine Sim.bind (sim_forB (P := P_is_passed_1 book k p3.1 p3.2) (RR := RR0) (fun d s ρ h => ?_) ?_) ?_
  · obtain ⟨u4, u5, rfl⟩ := h; exact e_is_passed_b1 ..
  · exact ⟨_, _, rfl⟩
  intro r fl hfl
  refine sim_aftF hfl (fun s23 ρ h => ?_)
  obtain ⟨u4, u5, rfl⟩ := h
  and_intros
  exact fR rfl
abbrev P_Book_1 (sides : D) (u0 u2 : Option D) (s : Unit) (ρ : VL.Env) : Prop := ∃ w3 w4, ρ = [u0, some sides, u2, w3, w4]
def m_Book_b1 (sides : D) (d : D) (s : Unit) : Res (Unit) :=
  (un2 d).bind fun p6 =>
  (m_is_ruling sides p6.2).bind fun t7 =>
  (opt (truD t7)).bind fun b8 =>
  if (!b8) = true then (
    exnR "BadRuling" ["at"] [p6.1])
  else (
    .ok ())
theorem e_Book_b1 (sides : D) (u0 u2 : Option D) (u3 u4 : Option D) (d : D) (s : Unit) : Sim (m_Book_b1 sides d s) ((opt (bindT (.tup [.name 3, .name 4]) d [u0, some sides, u2, u3, u4])).bind (sIf (eNot (eTru (.ex (eFn [.brw, .brw] v_is_ruling [.bor (.slot 1), .bor (.slot 4)])))) (sRaise "BadRuling" ["at"] [.val (eVar 3)]) sNil)) (QN (P_Book_1 sides u0 u2)) := by
  unfold m_Book_b1
  and_intros
  refine Sim.same fun p6 => ?_
  refine Sim.bind (e_is_ruling sides p6.2) ?_
  rintro t7 _ rfl
  and_intros
  refine Sim.same fun b8 => ?_
  refine Sim.ite ?_ ?_
  · refine Sim.app ?_
    and_intros
    exact sim_exnR
  · refine Sim.app ?_
    and_intros
    exact fNn ⟨_, _, rfl⟩
def m_Book (self sides rulings : D) : Res (D × D) :=
  (m_check_sides sides).bind fun t1 =>
  (opt (fLen [rulings])).bind fun t2 =>
  (opt (dGt t2 (.int 30))).bind fun t3 =>
  (toB t3).bind fun b4 =>
  if b4 = true then (
    exnR "BadRuling" ["at"] [.int (-1)])
  else (
    (enumR rulings).bind fun l5 =>
    (forN l5 () (m_Book_b1 sides)).bind fun s9 =>
    (setFR ["Book"] "sides" self sides).bind fun self10 =>
    (opt (fTuple [rulings])).bind fun t11 =>
    (setFR ["Book"] "rulings" self10 t11).bind fun self12 =>
    .ok (.non, self12))
theorem e_Book (self sides rulings : D) : Sim (m_Book self sides rulings) (v_Book [self, sides, rulings]) (fun r q => q = (r.1, [r.2])) := by
  unfold m_Book v_Book
  refine (sim_fn (RR := (RR1 0)) (os := fun v : D × D => (v.1, [v.2])) (E := [some self, some sides, some rulings, none, none]) rfl rr1 ?_)
  unfold b_Book
  and_intros
  refine Sim.bind (e_check_sides sides) ?_
  rintro t1 _ rfl
  and_intros
  refine Sim.app ?_
  and_intros
  refine Sim.same fun t2 => ?_
  refine Sim.same fun t3 => ?_
  refine Sim.same fun b4 => ?_
  refine Sim.ite ?_ ?_
  · refine Sim.app ?_
    and_intros
    exact sim_exnR
  · refine Sim.app ?_
    and_intros
    refine Sim.app ?_
    and_intros
    refine Sim.same fun l5 => ?_
    refine Sim.bind (sim_forN (P := P_Book_1 sides (some self) (some rulings)) (fun d s ρ h => ?_) ?_) ?_
    · obtain ⟨u3, u4, rfl⟩ := h; exact e_Book_b1 ..
    · exact ⟨_, _, rfl⟩
    intro s9 fl hfl
    refine sim_aftN hfl (fun ρ h => ?_)
    obtain ⟨u3, u4, rfl⟩ := h
    and_intros
    refine Sim.same fun self10 => ?_
    refine Sim.app ?_
    and_intros
    refine Sim.same fun t11 => ?_
    refine Sim.same fun self12 => ?_
    exact fRn ⟨rfl, rfl⟩
def m_least_book_c1 (book : D) (d : D) : Res (Option D) :=
  (un2 d).bind fun p4 =>
  (m_is_passed book p4.1).bind fun t5 =>
  (opt (truD t5)).bind fun b6 =>
  if (!b6) = true then (
    .ok (some p4.2))
  else .ok none
theorem e_least_book_c1 (book : D) (u1 : Option D) (d : D) : Sim (m_least_book_c1 book d) (lcIt [2, 3] (.tup [.name 2, .name 3]) (eNot (eTru (.ex (eFn [.brw, .brw] v_is_passed [.bor (.slot 0), .bor (.slot 2)])))) (eVar 3) d [some book, u1, none, none]) (fun a b => b = (a, [some book, u1, none, none])) := by
  unfold m_least_book_c1 lcIt
  and_intros
  refine Sim.same fun p4 => ?_
  refine Sim.bind (e_is_passed book p4.1) ?_
  rintro t5 _ rfl
  and_intros
  refine Sim.same fun b6 => ?_
  refine Sim.ite ?_ ?_
  · exact ⟨_, rfl, rfl⟩
  · exact ⟨_, rfl, rfl⟩
def m_least_book (book : D) : Res (D) :=
  (m_check_sound book).bind fun t1 =>
  (fldR ["Book"] "rulings" book).bind fun t2 =>
  (enumTR t2).bind fun l3 =>
  (lenG l3).bind fun _ =>
  (mFil l3 (m_least_book_c1 book)).bind fun kept7 =>
  (fldR ["Book"] "sides" book).bind fun t8 =>
  (m_Book (.obj "Book" []) t8 (.lst kept7)).bind fun r9 =>
  (mkR r9.1 [r9.2]).bind fun t10 =>
  .ok t10
theorem e_least_book (book : D) : Sim (m_least_book book) (v_least_book [book]) (fun r q => q = (r, [])) := by
  unfold m_least_book v_least_book
  refine (sim_fn (RR := RR0) (os := fun v : D => (v, ([] : List D))) (E := [some book, none, none, none]) rfl rr0 ?_)
  unfold b_least_book
  and_intros
  refine Sim.bind (e_check_sound book) ?_
  rintro t1 _ rfl
  and_intros
  refine Sim.app ?_
  and_intros
  refine Sim.same fun t2 => ?_
  refine Sim.same fun l3 => ?_
  refine Sim.same fun _ => ?_
  refine Sim.bind (sim_fil (fun d => e_least_book_c1 ..)) ?_
  rintro kept7 _ rfl
  and_intros
  refine Sim.app ?_
  and_intros
  refine Sim.same fun t8 => ?_
  refine Sim.bind (e_Book (.obj "Book" []) t8 (.lst kept7)) ?_
  rintro r9 _ rfl
  and_intros
  refine Sim.same fun t10 => ?_
  exact fR rfl
def m__law_feed (script : D) : Res (D) := noexn (
  (opt (fList [script])).bind fun t1 =>
  .ok (.lst [t1, .int 0, .int 0, .int 1]))
theorem e__law_feed (script : D) : Sim (m__law_feed script) (v__law_feed [script]) (fun r q => q = (r, [])) := by
  unfold m__law_feed v__law_feed
  refine Sim.noexn (sim_fn (RR := RR0) (os := fun v : D => (v, ([] : List D))) (E := [some script]) rfl rr0 ?_)
  unfold b__law_feed
  and_intros
  refine Sim.same fun t1 => ?_
  exact fR rfl
def m__law_sides_c1 (d : D) (s : D) : Res (D × D) :=
  (ckB (cellD s)).bind fun _ =>
  (mDraw s (.int 2)).bind fun r4 =>
  (opt (dIx (.str [43, 45]) r4.1)).bind fun t5 =>
  .ok (t5, r4.2)
theorem e__law_sides_c1 (u1 : Option D) (d : D) (s : D) : Sim (m__law_sides_c1 d s) (lcIt [2] (.name 2) tYesE (eBin dIx (.ex (eC (.str [43, 45]))) (.ex (eFn [.io, .brw] v__law_draw [.io 0, .bor (.ex (eC (.int 2)))]))) d [some s, u1, none]) (fun a b => b.1 = some a.1 ∧ b.2 = [some a.2, u1, none]) := by
  unfold m__law_sides_c1 lcIt
  and_intros
  refine Sim.same fun _ => ?_
  refine Sim.bind (sim_draw s (.int 2)) ?_
  rintro r4 _ rfl
  and_intros
  refine Sim.same fun t5 => ?_
  exact ⟨_, rfl, rfl, rfl⟩
def m__law_sides (feed most : D) : Res (D × D) := noexn (
  (ckB (cellD feed)).bind fun _ =>
  (mDraw feed most).bind fun r1 =>
  (opt (dAdd (.int 1) r1.1)).bind fun t2 =>
  (opt (rngOf [t2])).bind fun l3 =>
  (lenG l3).bind fun _ =>
  (mMapS l3 (r1.2) m__law_sides_c1).bind fun l6 =>
  (opt (fJoin [] [.lst l6.1])).bind fun t7 =>
  .ok (t7, l6.2))
theorem e__law_sides (feed most : D) : Sim (m__law_sides feed most) (v__law_sides [feed, most]) (fun r q => q = (r.1, [r.2])) := by
  unfold m__law_sides v__law_sides
  refine Sim.noexn (sim_fn (RR := (RR1 0)) (os := fun v : D × D => (v.1, [v.2])) (E := [some feed, some most, none]) rfl rr1 ?_)
  unfold b__law_sides
  and_intros
  refine Sim.same fun _ => ?_
  refine Sim.bind (sim_draw feed most) ?_
  rintro r1 _ rfl
  and_intros
  refine Sim.same fun t2 => ?_
  refine Sim.same fun l3 => ?_
  refine Sim.same fun _ => ?_
  refine Sim.bind (sim_mapS (P := fun z ρ => ρ = [some z, some most, none]) (fun d s ρ h => by subst h; exact e__law_sides_c1 ..) rfl) ?_
  rintro l6 ⟨_, _⟩ ⟨rfl, rfl⟩
  and_intros
  refine Sim.same fun t7 => ?_
  exact fR ⟨rfl, rfl⟩
def m__law_case_c1 (d : D) (s : D) : Res (D × D) :=
  (ckB (cellD s)).bind fun _ =>
  (mDraw s (.int 4)).bind fun r2 =>
  .ok (r2.1, r2.2)
theorem e__law_case_c1 (u1 : Option D) (d : D) (s : D) : Sim (m__law_case_c1 d s) (lcIt [2] (.name 2) tYesE (eFn [.io, .brw] v__law_draw [.io 0, .bor (.ex (eC (.int 4)))]) d [some s, u1, none]) (fun a b => b.1 = some a.1 ∧ b.2 = [some a.2, u1, none]) := by
  unfold m__law_case_c1 lcIt
  and_intros
  refine Sim.same fun _ => ?_
  refine Sim.bind (sim_draw s (.int 4)) ?_
  rintro r2 _ rfl
  and_intros
  exact ⟨_, rfl, rfl, rfl⟩
def m__law_case (feed sides : D) : Res (D × D) := noexn (
  (opt (itD sides)).bind fun l1 =>
  (lenG l1).bind fun _ =>
  (mMapS l1 (feed) m__law_case_c1).bind fun l3 =>
  (opt (fTuple [.lst l3.1])).bind fun t4 =>
  .ok (t4, l3.2))
theorem e__law_case (feed sides : D) : Sim (m__law_case feed sides) (v__law_case [feed, sides]) (fun r q => q = (r.1, [r.2])) := by
  unfold m__law_case v__law_case
  refine Sim.noexn (sim_fn (RR := (RR1 0)) (os := fun v : D × D => (v.1, [v.2])) (E := [some feed, some sides, none]) rfl rr1 ?_)
  unfold b__law_case
  and_intros
  refine Sim.same fun l1 => ?_
  refine Sim.same fun _ => ?_
  refine Sim.bind (sim_mapS (P := fun z ρ => ρ = [some z, some sides, none]) (fun d s ρ h => by subst h; exact e__law_case_c1 ..) rfl) ?_
  rintro l3 ⟨_, _⟩ ⟨rfl, rfl⟩
  and_intros
  refine Sim.same fun t4 => ?_
  exact fR ⟨rfl, rfl⟩
abbrev P__law_cases_1 (u0 u5 : Option D) (s : D) (ρ : VL.Env) : Prop := ∃ w2 w3 w4, ρ = [u0, some s, w2, w3, w4, u5]
abbrev P__law_cases_2 (u0 u1 u2 u5 : Option D) (s : D) (ρ : VL.Env) : Prop := ∃ w4, ρ = [u0, u1, u2, some s, w4, u5]
def m__law_cases_c3 (case : D) (d : D) : Res (D) :=
  (opt (dAdd case (.tup [d]))).bind fun t4 =>
  .ok t4
theorem e__law_cases_c3 (case : D) (u0 u1 u2 u3 : Option D) (d : D) : Sim (m__law_cases_c3 case d) (lcIt [5] (.name 5) tYesE (eBin dAdd (.slot 4) (.ex (eTup [.val (eVar 5)]))) d [u0, u1, u2, u3, some case, none]) (fun a b => b = (some a, [u0, u1, u2, u3, some case, none])) := by
  unfold m__law_cases_c3 lcIt
  and_intros
  refine Sim.same fun t4 => ?_
  exact ⟨_, rfl, rfl⟩
def m__law_cases_b2 (d : D) (s : D) : Res (D) :=
  (opt (itD (.lst [.int 0, .int 1, .int 2, .int 3]))).bind fun l3 =>
  (lenG l3).bind fun _ =>
  (mMap l3 (m__law_cases_c3 d)).bind fun l5 =>
  (opt (dAdd s (.lst l5))).bind fun longer6 =>
  .ok (longer6)
theorem e__law_cases_b2 (u0 u1 u2 u5 : Option D) (u4 : Option D) (d : D) (s : D) : Sim (m__law_cases_b2  d s) ((opt (bindT (.name 4) d [u0, u1, u2, some s, u4, u5])).bind (sSet 3 (eBin dAdd (.slot 3) (.ex (eLC (eIt (eLst [.val (eC (.int 0)), .val (eC (.int 1)), .val (eC (.int 2)), .val (eC (.int 3))])) [5] (.name 5) tYesE (eBin dAdd (.slot 4) (.ex (eTup [.val (eVar 5)])))))))) (QN (P__law_cases_2 u0 u1 u2 u5)) := by
  unfold m__law_cases_b2
  and_intros
  refine Sim.same fun l3 => ?_
  refine Sim.same fun _ => ?_
  refine Sim.bind (sim_map (fun d => e__law_cases_c3 ..)) ?_
  rintro l5 _ rfl
  and_intros
  refine Sim.same fun longer6 => ?_
  exact fNn ⟨_, rfl⟩
def m__law_cases_b1 (d : D) (s : D) : Res (D) :=
  (opt (itD s)).bind fun l2 =>
  (forN l2 (.lst []) m__law_cases_b2).bind fun s7 =>
  .ok (s7)
theorem e__law_cases_b1 (u0 u5 : Option D) (u2 u3 u4 : Option D) (d : D) (s : D) : Sim (m__law_cases_b1  d s) ((opt (bindT (.name 2) d [u0, some s, u2, u3, u4, u5])).bind (sSeq (sSet 3 (eLst [])) (sSeq (sFor (eIt (eVar 1)) (.name 4) (sSet 3 (eBin dAdd (.slot 3) (.ex (eLC (eIt (eLst [.val (eC (.int 0)), .val (eC (.int 1)), .val (eC (.int 2)), .val (eC (.int 3))])) [5] (.name 5) tYesE (eBin dAdd (.slot 4) (.ex (eTup [.val (eVar 5)])))))))) (sSet 1 (eVar 3))))) (QN (P__law_cases_1 u0 u5)) := by
  unfold m__law_cases_b1
  and_intros
  refine Sim.app ?_
  and_intros
  refine Sim.same fun l2 => ?_
  refine Sim.bind (sim_forN (P := P__law_cases_2 u0 (some s) (some d) u5) (fun d s ρ h => ?_) ?_) ?_
  · obtain ⟨u4, rfl⟩ := h; exact e__law_cases_b2 ..
  · exact ⟨_, rfl⟩
  intro s7 fl hfl
  refine sim_aftN hfl (fun ρ h => ?_)
  obtain ⟨u4, rfl⟩ := h
  and_intros
  exact fNn ⟨_, _, _, rfl⟩
def m__law_cases (sides : D) : Res (D) := noexn (
  (opt (itD sides)).bind fun l1 =>
  (forN l1 (.lst [.tup []]) m__law_cases_b1).bind fun s8 =>
  .ok s8)
theorem e__law_cases (sides : D) : Sim (m__law_cases sides) (v__law_cases [sides]) (fun r q => q = (r, [])) := by
  unfold m__law_cases v__law_cases
  refine Sim.noexn (sim_fn (RR := RR0) (os := fun v : D => (v, ([] : List D))) (E := [some sides, none, none, none, none, none]) rfl rr0 ?_)
  unfold b__law_cases
  and_intros
  refine Sim.app ?_
  and_intros
  refine Sim.same fun l1 => ?_
  refine Sim.bind (sim_forN (P := P__law_cases_1 (some sides) none) (fun d s ρ h => ?_) ?_) ?_
  · obtain ⟨u2, u3, u4, rfl⟩ := h; exact e__law_cases_b1 ..
  · exact ⟨_, _, _, rfl⟩
  intro s8 fl hfl
  refine sim_aftN hfl (fun ρ h => ?_)
  obtain ⟨u2, u3, u4, rfl⟩ := h
  and_intros
  exact fR rfl
abbrev P__law_ge_1 (sides c d_ : D) (s : Unit) (ρ : VL.Env) : Prop := ∃ w3, ρ = [some sides, some c, some d_, w3]
def m__law_ge_b1 (sides c d_ : D) (d : D) (s : Unit) : Res (Stp (Unit) (D)) :=
  (opt (dIx sides d)).bind fun t3 =>
  (opt (dEq t3 (.str [43]))).bind fun t4 =>
  (toB t4).bind fun b5 =>
  (if b5 = true then (
      (opt (dIx c d)).bind fun t6 =>
      (opt (dIx d_ d)).bind fun t7 =>
      (opt (dLt t6 t7)).bind fun t8 =>
      (toB t8).bind fun b9 =>
      .ok (b9) : Res (Bool)) else (
      .ok (false) : Res (Bool))).bind fun b10 =>
  if b10 = true then (
    .ok (.ret (.bl false)))
  else (
    (opt (dIx sides d)).bind fun t11 =>
    (opt (dEq t11 (.str [45]))).bind fun t12 =>
    (toB t12).bind fun b13 =>
    (if b13 = true then (
          (opt (dIx c d)).bind fun t14 =>
          (opt (dIx d_ d)).bind fun t15 =>
          (opt (dGt t14 t15)).bind fun t16 =>
          (toB t16).bind fun b17 =>
          .ok (b17) : Res (Bool)) else (
          .ok (false) : Res (Bool))).bind fun b18 =>
    if b18 = true then (
      .ok (.ret (.bl false)))
    else (
      .ok (.next ())))
theorem e__law_ge_b1 (sides c d_ : D) (u3 : Option D) (d : D) (s : Unit) : Sim (m__law_ge_b1 sides c d_ d s) ((opt (bindT (.name 3) d [some sides, some c, some d_, u3])).bind (sSeq (sIf (eAnd (eTB (eBin dEq (.ex (eBin dIx (.slot 0) (.slot 3))) (.ex (eC (.str [43]))))) (eTB (eBin dLt (.ex (eBin dIx (.slot 1) (.slot 3))) (.ex (eBin dIx (.slot 2) (.slot 3)))))) (sRet (eUp (eC (.bl false)))) sNil) (sIf (eAnd (eTB (eBin dEq (.ex (eBin dIx (.slot 0) (.slot 3))) (.ex (eC (.str [45]))))) (eTB (eBin dGt (.ex (eBin dIx (.slot 1) (.slot 3))) (.ex (eBin dIx (.slot 2) (.slot 3)))))) (sRet (eUp (eC (.bl false)))) sNil))) (QS RR0 (P__law_ge_1 sides c d_)) := by
  unfold m__law_ge_b1
  and_intros
  refine Sim.same fun t3 => ?_
  refine Sim.same fun t4 => ?_
  refine Sim.same fun b5 => ?_
  first | refine Sim.bind (P := fun a b => b = (a, [some sides, some c, some d_, some d])) (Sim.ite ?_ ?_) ?_ | refine Sim.bindR (P := fun a b => b = (a, [some sides, some c, some d_, some d])) (Sim.ite ?_ ?_) ?_
  · refine Sim.same fun t6 => ?_
    refine Sim.same fun t7 => ?_
    refine Sim.same fun t8 => ?_
    refine Sim.same fun b9 => ?_
    exact ⟨_, rfl, rfl⟩
  · exact ⟨_, rfl, rfl⟩
  rintro b10 _ rfl
  and_intros
  refine Sim.ite ?_ ?_
  · refine Sim.app ?_
    and_intros
    exact fSr rfl
  · refine Sim.app ?_
    and_intros
    refine Sim.app ?_
    and_intros
    refine Sim.same fun t11 => ?_
    refine Sim.same fun t12 => ?_
    refine Sim.same fun b13 => ?_
    first | refine Sim.bind (P := fun a b => b = (a, [some sides, some c, some d_, some d])) (Sim.ite ?_ ?_) ?_ | refine Sim.bindR (P := fun a b => b = (a, [some sides, some c, some d_, some d])) (Sim.ite ?_ ?_) ?_
    · refine Sim.same fun t14 => ?_
      refine Sim.same fun t15 => ?_
      refine Sim.same fun t16 => ?_
      refine Sim.same fun b17 => ?_
      exact ⟨_, rfl, rfl⟩
    · exact ⟨_, rfl, rfl⟩
    rintro b18 _ rfl
    and_intros
    refine Sim.ite ?_ ?_
    · refine Sim.app ?_
      and_intros
      exact fSr rfl
    · refine Sim.app ?_
      and_intros
      exact fSn ⟨_, rfl⟩
def m__law_ge (sides c d_ : D) : Res (D) := noexn (
  (opt (fLen [sides])).bind fun t1 =>
  (opt (rngOf [t1])).bind fun l2 =>
  (forB l2 () (m__law_ge_b1 sides c d_)).bind fun r => aftF r fun s19 =>
  .ok (.bl true))
theorem e__law_ge (sides c d_ : D) : Sim (m__law_ge sides c d_) (v__law_ge [sides, c, d_]) (fun r q => q = (r, [])) := by
  unfold m__law_ge v__law_ge
  refine Sim.noexn (sim_fn (RR := RR0) (os := fun v : D => (v, ([] : List D))) (E := [some sides, some c, some d_, none]) rfl rr0 ?_)
  unfold b__law_ge
  and_intros
  refine Sim.same fun t1 => ?_
  refine Sim.same fun l2 => ?_
  refine Sim.bind (sim_forB (P := P__law_ge_1 sides c d_) (RR := RR0) (fun d s ρ h => ?_) ?_) ?_
  · obtain ⟨u3, rfl⟩ := h; exact e__law_ge_b1 ..
  · exact ⟨_, rfl⟩
  intro r fl hfl
  refine sim_aftF hfl (fun s19 ρ h => ?_)
  obtain ⟨u3, rfl⟩ := h
  and_intros
  exact fR rfl
def m__law_rulings_c1 (sides : D) (d : D) (s : D) : Res (D × D) :=
  (ckB (cellD s)).bind fun _ =>
  (m__law_case s sides).bind fun r3 =>
  .ok (r3.1, r3.2)
theorem e__law_rulings_c1 (sides : D) (u2 u3 u4 u6 u7 u8 u9 : Option D) (d : D) (s : D) : Sim (m__law_rulings_c1 sides d s) (lcIt [5] (.name 5) tYesE (eFn [.io, .brw] v__law_case [.io 0, .bor (.slot 1)]) d [some s, some sides, u2, u3, u4, none, u6, u7, u8, u9]) (fun a b => b.1 = some a.1 ∧ b.2 = [some a.2, some sides, u2, u3, u4, none, u6, u7, u8, u9]) := by
  unfold m__law_rulings_c1 lcIt
  and_intros
  refine Sim.same fun _ => ?_
  refine Sim.bind (e__law_case s sides) ?_
  rintro r3 _ rfl
  and_intros
  exact ⟨_, rfl, rfl, rfl⟩
abbrev P__law_rulings_2 (sides least : D) (u2 u9 : Option D) (s : D × D) (ρ : VL.Env) : Prop := ∃ w5 w6 w7 w8, ρ = [some s.1, some sides, u2, some least, some s.2, w5, w6, w7, w8, u9]
def m__law_rulings_c4 (sides case : D) (d : D) : Res (Option D) :=
  (m__law_ge sides case d).bind fun t17 =>
  (opt (truD t17)).bind fun b18 =>
  if b18 = true then (
    .ok (some d))
  else .ok none
theorem e__law_rulings_c4 (sides case : D) (u0 u2 u3 u4 u5 u7 u8 : Option D) (d : D) : Sim (m__law_rulings_c4 sides case d) (lcIt [9] (.name 9) (eTru (.ex (eFn [.brw, .brw, .brw] v__law_ge [.bor (.slot 1), .bor (.slot 6), .bor (.slot 9)]))) (eVar 9) d [u0, some sides, u2, u3, u4, u5, some case, u7, u8, none]) (fun a b => b = (a, [u0, some sides, u2, u3, u4, u5, some case, u7, u8, none])) := by
  unfold m__law_rulings_c4 lcIt
  and_intros
  refine Sim.bind (e__law_ge sides case d) ?_
  rintro t17 _ rfl
  and_intros
  refine Sim.same fun b18 => ?_
  refine Sim.ite ?_ ?_
  · exact ⟨_, rfl, rfl⟩
  · exact ⟨_, rfl, rfl⟩
def m__law_rulings_j3 (feed sides least rulings case : D) : Res (D × D) :=
  (opt (itD least)).bind fun l16 =>
  (lenG l16).bind fun _ =>
  (mFil l16 (m__law_rulings_c4 sides case)).bind fun l19 =>
  (opt (fLen [.lst l19])).bind fun t20 =>
  (opt (dGt t20 (.int 0))).bind fun removed21 =>
  (toL rulings).bind fun l22 =>
  (opt (fInt [removed21])).bind fun t23 =>
  (opt (dIx (.lst [.str [107, 101, 101, 112], .str [114, 101, 109, 111, 118, 101]]) t23)).bind fun t24 =>
  (toL rulings).bind fun l25 =>
  (opt (mAppend l25 [.tup [case, t24]])).bind fun r26 =>
  .ok (feed, .lst r26.1)
theorem e__law_rulings_j3 (feed sides least rulings case : D) (u2 u5 u7 u8 u9 : Option D) : Sim (m__law_rulings_j3 feed sides least rulings case) ((sSeq (sSet 8 (eBin dGt (.ex (eCall fLen [.bor (.ex (eLC (eIt (eVar 3)) [9] (.name 9) (eTru (.ex (eFn [.brw, .brw, .brw] v__law_ge [.bor (.slot 1), .bor (.slot 6), .bor (.slot 9)]))) (eVar 9)))])) (.ex (eC (.int 0))))) (sExpr (eMut 4 mAppend [.val (eTup [.val (eVar 6), .val (eBin dIx (.ex (eLst [.val (eC (.str [107, 101, 101, 112])), .val (eC (.str [114, 101, 109, 111, 118, 101]))])) (.ex (eCall fInt [.bor (.slot 8)])))])]))) [some feed, some sides, u2, some least, some rulings, u5, some case, u7, u8, u9]) (QN (P__law_rulings_2 sides least u2 u9)) := by
  unfold m__law_rulings_j3
  and_intros
  refine Sim.same fun l16 => ?_
  refine Sim.same fun _ => ?_
  refine Sim.bind (sim_fil (fun d => e__law_rulings_c4 ..)) ?_
  rintro l19 _ rfl
  and_intros
  refine Sim.same fun t20 => ?_
  refine Sim.same fun removed21 => ?_
  refine Sim.app ?_
  and_intros
  refine Sim.same fun l22 => ?_
  refine Sim.same fun t23 => ?_
  refine Sim.same fun t24 => ?_
  refine Sim.same fun l25 => ?_
  refine Sim.same fun r26 => ?_
  exact fNn ⟨_, _, _, _, rfl⟩
def m__law_rulings_b2 (sides least : D) (d : D) (s : D × D) : Res (D × D) :=
  (ckB (cellD s.1)).bind fun _ =>
  (m__law_case s.1 sides).bind fun r8 =>
  (opt (fLen [s.2])).bind fun t9 =>
  (opt (dGt t9 (.int 0))).bind fun t10 =>
  (toB t10).bind fun b11 =>
  (if b11 = true then (
      (ckB (cellD r8.2)).bind fun _ =>
      (mDraw r8.2 (.int 4)).bind fun r12 =>
      (opt (dEq r12.1 (.int 0))).bind fun t13 =>
      (toB t13).bind fun b14 =>
      .ok (b14, r12.2) : Res (Bool × D)) else (
      .ok (false, r8.2) : Res (Bool × D))).bind fun b15 =>
  if b15.1 = true then (
    (opt (fLen [s.2])).bind fun t27 =>
    (ckB (cellD b15.2)).bind fun _ =>
    (mDraw b15.2 t27).bind fun r28 =>
    (opt (dIx s.2 r28.1)).bind fun t29 =>
    (opt (dIx t29 (.int 0))).bind fun case30 =>
    (opt (fLen [sides])).bind fun t31 =>
    (ckB (cellD r28.2)).bind fun _ =>
    (mDraw r28.2 t31).bind fun r32 =>
    (toI r32.1).bind fun i33 =>
    (opt (dSlice case30 none (some i33))).bind fun t34 =>
    (ckB (cellD r32.2)).bind fun _ =>
    (mDraw r32.2 (.int 4)).bind fun r35 =>
    (opt (dAdd t34 (.tup [r35.1]))).bind fun t36 =>
    (opt (dAdd r32.1 (.int 1))).bind fun t37 =>
    (toI t37).bind fun i38 =>
    (opt (dSlice case30 (some i38) none)).bind fun t39 =>
    (opt (dAdd t36 t39)).bind fun case40 =>
    m__law_rulings_j3 r35.2 sides least s.2 case40)
  else (
    m__law_rulings_j3 b15.2 sides least s.2 r8.1)
theorem e__law_rulings_b2 (sides least : D) (u2 u9 : Option D) (u5 u6 u7 u8 : Option D) (d : D) (s : D × D) : Sim (m__law_rulings_b2 sides least d s) ((opt (bindT (.name 5) d [some s.1, some sides, u2, some least, some s.2, u5, u6, u7, u8, u9])).bind (sSeq (sSet 6 (eFn [.io, .brw] v__law_case [.io 0, .bor (.slot 1)])) (sSeq (sIf (eAnd (eTB (eBin dGt (.ex (eCall fLen [.bor (.slot 4)])) (.ex (eC (.int 0))))) (eTB (eBin dEq (.ex (eFn [.io, .brw] v__law_draw [.io 0, .bor (.ex (eC (.int 4)))])) (.ex (eC (.int 0)))))) (sSeq (sSet 6 (eBin dIx (.ex (eBin dIx (.slot 4) (.ex (eFn [.io, .brw] v__law_draw [.io 0, .bor (.ex (eCall fLen [.bor (.slot 4)]))])))) (.ex (eC (.int 0))))) (sSeq (sSet 7 (eFn [.io, .brw] v__law_draw [.io 0, .bor (.ex (eCall fLen [.bor (.slot 1)]))])) (sSet 6 (eBin dAdd (.ex (eBin dAdd (.ex (eSl (.slot 6) none (some (eVar 7)))) (.ex (eTup [.val (eFn [.io, .brw] v__law_draw [.io 0, .bor (.ex (eC (.int 4)))])])))) (.ex (eSl (.slot 6) (some (eBin dAdd (.slot 7) (.ex (eC (.int 1))))) none)))))) sNil) (sSeq (sSet 8 (eBin dGt (.ex (eCall fLen [.bor (.ex (eLC (eIt (eVar 3)) [9] (.name 9) (eTru (.ex (eFn [.brw, .brw, .brw] v__law_ge [.bor (.slot 1), .bor (.slot 6), .bor (.slot 9)]))) (eVar 9)))])) (.ex (eC (.int 0))))) (sExpr (eMut 4 mAppend [.val (eTup [.val (eVar 6), .val (eBin dIx (.ex (eLst [.val (eC (.str [107, 101, 101, 112])), .val (eC (.str [114, 101, 109, 111, 118, 101]))])) (.ex (eCall fInt [.bor (.slot 8)])))])])))))) (QN (P__law_rulings_2 sides least u2 u9)) := by
  unfold m__law_rulings_b2
  and_intros
  refine Sim.same fun _ => ?_
  refine Sim.bind (e__law_case s.1 sides) ?_
  rintro r8 _ rfl
  and_intros
  refine Sim.app ?_
  and_intros
  refine Sim.same fun t9 => ?_
  refine Sim.same fun t10 => ?_
  refine Sim.same fun b11 => ?_
  first | refine Sim.bind (P := fun a b => b = (a.1, [some a.2, some sides, u2, some least, some s.2, some d, some r8.1, u7, u8, u9])) (Sim.ite ?_ ?_) ?_ | refine Sim.bindR (P := fun a b => b = (a.1, [some a.2, some sides, u2, some least, some s.2, some d, some r8.1, u7, u8, u9])) (Sim.ite ?_ ?_) ?_
  · refine Sim.same fun _ => ?_
    refine Sim.bind (sim_draw r8.2 (.int 4)) ?_
    rintro r12 _ rfl
    and_intros
    refine Sim.same fun t13 => ?_
    refine Sim.same fun b14 => ?_
    exact ⟨_, rfl, rfl⟩
  · exact ⟨_, rfl, rfl⟩
  rintro b15 _ rfl
  and_intros
  refine Sim.ite ?_ ?_
  · refine Sim.app ?_
    and_intros
    refine Sim.same fun t27 => ?_
    refine Sim.same fun _ => ?_
    refine Sim.bind (sim_draw b15.2 t27) ?_
    rintro r28 _ rfl
    and_intros
    refine Sim.same fun t29 => ?_
    refine Sim.same fun case30 => ?_
    refine Sim.app ?_
    and_intros
    refine Sim.same fun t31 => ?_
    refine Sim.same fun _ => ?_
    refine Sim.bind (sim_draw r28.2 t31) ?_
    rintro r32 _ rfl
    and_intros
    refine Sim.app ?_
    and_intros
    refine Sim.same fun i33 => ?_
    refine Sim.same fun t34 => ?_
    refine Sim.same fun _ => ?_
    refine Sim.bind (sim_draw r32.2 (.int 4)) ?_
    rintro r35 _ rfl
    and_intros
    refine Sim.same fun t36 => ?_
    refine Sim.same fun t37 => ?_
    refine Sim.same fun i38 => ?_
    refine Sim.same fun t39 => ?_
    refine Sim.same fun case40 => ?_
    exact Sim.app (e__law_rulings_j3 ..)
  · refine Sim.app ?_
    and_intros
    exact Sim.app (e__law_rulings_j3 ..)
def m__law_rulings (feed sides most : D) : Res (D × D) := noexn (
  (ckB (cellD feed)).bind fun _ =>
  (mDraw feed (.int 4)).bind fun r1 =>
  (opt (rngOf [r1.1])).bind fun l2 =>
  (lenG l2).bind fun _ =>
  (mMapS l2 (r1.2) (m__law_rulings_c1 sides)).bind fun least4 =>
  (opt (dAdd most (.int 1))).bind fun t5 =>
  (ckB (cellD least4.2)).bind fun _ =>
  (mDraw least4.2 t5).bind fun r6 =>
  (opt (rngOf [r6.1])).bind fun l7 =>
  (forN l7 (r6.2, .lst []) (m__law_rulings_b2 sides (.lst least4.1))).bind fun s41 =>
  .ok (s41.2, s41.1))
theorem e__law_rulings (feed sides most : D) : Sim (m__law_rulings feed sides most) (v__law_rulings [feed, sides, most]) (fun r q => q = (r.1, [r.2])) := by
  unfold m__law_rulings v__law_rulings
  refine Sim.noexn (sim_fn (RR := (RR1 0)) (os := fun v : D × D => (v.1, [v.2])) (E := [some feed, some sides, some most, none, none, none, none, none, none, none]) rfl rr1 ?_)
  unfold b__law_rulings
  and_intros
  refine Sim.same fun _ => ?_
  refine Sim.bind (sim_draw feed (.int 4)) ?_
  rintro r1 _ rfl
  and_intros
  refine Sim.same fun l2 => ?_
  refine Sim.same fun _ => ?_
  refine Sim.bind (sim_mapS (P := fun z ρ => ρ = [some z, some sides, some most, none, none, none, none, none, none, none]) (fun d s ρ h => by subst h; exact e__law_rulings_c1 ..) rfl) ?_
  rintro least4 ⟨_, _⟩ ⟨rfl, rfl⟩
  and_intros
  refine Sim.app ?_
  and_intros
  refine Sim.app ?_
  and_intros
  refine Sim.same fun t5 => ?_
  refine Sim.same fun _ => ?_
  refine Sim.bind (sim_draw least4.2 t5) ?_
  rintro r6 _ rfl
  and_intros
  refine Sim.same fun l7 => ?_
  refine Sim.bind (sim_forN (P := P__law_rulings_2 sides (.lst least4.1) (some most) none) (fun d s ρ h => ?_) ?_) ?_
  · obtain ⟨u5, u6, u7, u8, rfl⟩ := h; exact e__law_rulings_b2 ..
  · exact ⟨_, _, _, _, rfl⟩
  intro s41 fl hfl
  refine sim_aftN hfl (fun ρ h => ?_)
  obtain ⟨u5, u6, u7, u8, rfl⟩ := h
  and_intros
  exact fR ⟨rfl, rfl⟩
abbrev P__law_flipped_1 (u1 : Option D) (s : D × D) (ρ : VL.Env) : Prop := ∃ w3 w4 w5 w6, ρ = [some s.1, u1, some s.2, w3, w4, w5, w6]
def m__law_flipped_b1 (d : D) (s : D × D) : Res (D × D) :=
  (opt (fLen [s.2])).bind fun t4 =>
  (opt (dGt t4 (.int 0))).bind fun t5 =>
  (toB t5).bind fun b6 =>
  if b6 = true then (
    (opt (fLen [s.2])).bind fun t7 =>
    (ckB (cellD s.1)).bind fun _ =>
    (mDraw s.1 t7).bind fun r8 =>
    (opt (dIx s.2 r8.1)).bind fun t9 =>
    (un2 t9).bind fun p10 =>
    (opt (dEq p10.2 (.str [107, 101, 101, 112]))).bind fun t11 =>
    (opt (fInt [t11])).bind fun t12 =>
    (opt (dIx (.lst [.str [107, 101, 101, 112], .str [114, 101, 109, 111, 118, 101]]) t12)).bind fun t13 =>
    (setR s.2 r8.1 (.tup [p10.1, t13])).bind fun found14 =>
    .ok (r8.2, found14))
  else (
    .ok (s.1, s.2))
theorem e__law_flipped_b1 (u1 : Option D) (u3 u4 u5 u6 : Option D) (d : D) (s : D × D) : Sim (m__law_flipped_b1  d s) ((opt (bindT (.name 3) d [some s.1, u1, some s.2, u3, u4, u5, u6])).bind (sIf (eTB (eBin dGt (.ex (eCall fLen [.bor (.slot 2)])) (.ex (eC (.int 0))))) (sSeq (sSet 4 (eFn [.io, .brw] v__law_draw [.io 0, .bor (.ex (eCall fLen [.bor (.slot 2)]))])) (sSeq (sAsg (.tup [.name 5, .name 6]) (eBin dIx (.slot 2) (.slot 4))) (sSetIx 2 (eVar 4) (eTup [.val (eVar 5), .val (eBin dIx (.ex (eLst [.val (eC (.str [107, 101, 101, 112])), .val (eC (.str [114, 101, 109, 111, 118, 101]))])) (.ex (eCall fInt [.bor (.ex (eBin dEq (.slot 6) (.ex (eC (.str [107, 101, 101, 112])))))])))])))) sNil)) (QN (P__law_flipped_1 u1)) := by
  unfold m__law_flipped_b1
  and_intros
  refine Sim.same fun t4 => ?_
  refine Sim.same fun t5 => ?_
  refine Sim.same fun b6 => ?_
  refine Sim.ite ?_ ?_
  · refine Sim.app ?_
    and_intros
    refine Sim.same fun t7 => ?_
    refine Sim.same fun _ => ?_
    refine Sim.bind (sim_draw s.1 t7) ?_
    rintro r8 _ rfl
    and_intros
    refine Sim.app ?_
    and_intros
    refine Sim.same fun t9 => ?_
    refine Sim.same fun p10 => ?_
    refine Sim.app ?_
    and_intros
    refine Sim.same fun t11 => ?_
    refine Sim.same fun t12 => ?_
    refine Sim.same fun t13 => ?_
    refine Sim.same fun found14 => ?_
    exact fNn ⟨_, _, _, _, rfl⟩
  · refine Sim.app ?_
    and_intros
    exact fNn ⟨_, _, _, _, rfl⟩
def m__law_flipped (feed rulings : D) : Res (D × D) := noexn (
  (opt (fList [rulings])).bind fun found1 =>
  (ckB (cellD feed)).bind fun _ =>
  (mDraw feed (.int 4)).bind fun r2 =>
  (opt (rngOf [r2.1])).bind fun l3 =>
  (forN l3 (r2.2, found1) m__law_flipped_b1).bind fun s15 =>
  .ok (s15.2, s15.1))
theorem e__law_flipped (feed rulings : D) : Sim (m__law_flipped feed rulings) (v__law_flipped [feed, rulings]) (fun r q => q = (r.1, [r.2])) := by
  unfold m__law_flipped v__law_flipped
  refine Sim.noexn (sim_fn (RR := (RR1 0)) (os := fun v : D × D => (v.1, [v.2])) (E := [some feed, some rulings, none, none, none, none, none]) rfl rr1 ?_)
  unfold b__law_flipped
  and_intros
  refine Sim.same fun found1 => ?_
  refine Sim.app ?_
  and_intros
  refine Sim.same fun _ => ?_
  refine Sim.bind (sim_draw feed (.int 4)) ?_
  rintro r2 _ rfl
  and_intros
  refine Sim.same fun l3 => ?_
  refine Sim.bind (sim_forN (P := P__law_flipped_1 (some rulings)) (fun d s ρ h => ?_) ?_) ?_
  · obtain ⟨u3, u4, u5, u6, rfl⟩ := h; exact e__law_flipped_b1 ..
  · exact ⟨_, _, _, _, rfl⟩
  intro s15 fl hfl
  refine sim_aftN hfl (fun ρ h => ?_)
  obtain ⟨u3, u4, u5, u6, rfl⟩ := h
  and_intros
  exact fR ⟨rfl, rfl⟩
def m__law_some_book_j2 (feed sides rulings : D) : Res (D × D) :=
  .ok (.tup [sides, rulings], feed)
theorem e__law_some_book_j2 (feed sides rulings : D) (u2 : Option D) : Sim (m__law_some_book_j2 feed sides rulings) ((sRet (eUp (eTup [.val (eVar 1), .val (eVar 3)]))) [some feed, some sides, u2, some rulings]) (QR (RR1 0)) := by
  unfold m__law_some_book_j2
  and_intros
  exact fR ⟨rfl, rfl⟩
def m__law_some_book_j1 (feed sides most : D) : Res (D × D) :=
  (ckB (cellD feed)).bind fun _ =>
  (m__law_rulings feed sides most).bind fun r5 =>
  (ckB (cellD r5.2)).bind fun _ =>
  (mDraw r5.2 (.int 2)).bind fun r6 =>
  (opt (dEq r6.1 (.int 0))).bind fun t7 =>
  (toB t7).bind fun b8 =>
  if b8 = true then (
    (ckB (cellD r6.2)).bind fun _ =>
    (m__law_flipped r6.2 r5.1).bind fun r9 =>
    m__law_some_book_j2 r9.2 sides r9.1)
  else (
    m__law_some_book_j2 r6.2 sides r5.1)
theorem e__law_some_book_j1 (feed sides most : D) (u3 : Option D) : Sim (m__law_some_book_j1 feed sides most) ((sSeq (sSet 3 (eFn [.io, .brw, .brw] v__law_rulings [.io 0, .bor (.slot 1), .bor (.slot 2)])) (sSeq (sIf (eTB (eBin dEq (.ex (eFn [.io, .brw] v__law_draw [.io 0, .bor (.ex (eC (.int 2)))])) (.ex (eC (.int 0))))) (sSet 3 (eFn [.io, .brw] v__law_flipped [.io 0, .bor (.slot 3)])) sNil) (sRet (eUp (eTup [.val (eVar 1), .val (eVar 3)]))))) [some feed, some sides, some most, u3]) (QR (RR1 0)) := by
  unfold m__law_some_book_j1
  and_intros
  refine Sim.same fun _ => ?_
  refine Sim.bind (e__law_rulings feed sides most) ?_
  rintro r5 _ rfl
  and_intros
  refine Sim.app ?_
  and_intros
  refine Sim.same fun _ => ?_
  refine Sim.bind (sim_draw r5.2 (.int 2)) ?_
  rintro r6 _ rfl
  and_intros
  refine Sim.same fun t7 => ?_
  refine Sim.same fun b8 => ?_
  refine Sim.ite ?_ ?_
  · refine Sim.app ?_
    and_intros
    refine Sim.same fun _ => ?_
    refine Sim.bind (e__law_flipped r6.2 r5.1) ?_
    rintro r9 _ rfl
    and_intros
    exact Sim.app (e__law_some_book_j2 ..)
  · refine Sim.app ?_
    and_intros
    exact Sim.app (e__law_some_book_j2 ..)
def m__law_some_book (feed : D) : Res (D × D) := noexn (
  (ckB (cellD feed)).bind fun _ =>
  (m__law_sides feed (.int 3)).bind fun r1 =>
  (ckB (cellD r1.2)).bind fun _ =>
  (mDraw r1.2 (.int 10)).bind fun r2 =>
  (opt (dEq r2.1 (.int 0))).bind fun t3 =>
  (toB t3).bind fun b4 =>
  if b4 = true then (
    (opt (dAdd r1.1 (.str [43, 45]))).bind fun sides10 =>
    m__law_some_book_j1 r2.2 sides10 (.int 30))
  else (
    m__law_some_book_j1 r2.2 r1.1 (.int 8)))
theorem e__law_some_book (feed : D) : Sim (m__law_some_book feed) (v__law_some_book [feed]) (fun r q => q = (r.1, [r.2])) := by
  unfold m__law_some_book v__law_some_book
  refine Sim.noexn (sim_fn (RR := (RR1 0)) (os := fun v : D × D => (v.1, [v.2])) (E := [some feed, none, none, none]) rfl rr1 ?_)
  unfold b__law_some_book
  and_intros
  refine Sim.same fun _ => ?_
  refine Sim.bind (e__law_sides feed (.int 3)) ?_
  rintro r1 _ rfl
  and_intros
  refine Sim.app ?_
  and_intros
  refine Sim.app ?_
  and_intros
  refine Sim.same fun _ => ?_
  refine Sim.bind (sim_draw r1.2 (.int 10)) ?_
  rintro r2 _ rfl
  and_intros
  refine Sim.same fun t3 => ?_
  refine Sim.same fun b4 => ?_
  refine Sim.ite ?_ ?_
  · refine Sim.app ?_
    and_intros
    refine Sim.same fun sides10 => ?_
    refine Sim.app ?_
    and_intros
    exact Sim.app (e__law_some_book_j1 ..)
  · refine Sim.app ?_
    and_intros
    exact Sim.app (e__law_some_book_j1 ..)
abbrev P__law_cross_1 (sides rulings : D) (s : Unit) (ρ : VL.Env) : Prop := ∃ w2 w3, ρ = [some sides, some rulings, w2, w3]
abbrev P__law_cross_2 (sides rulings i : D) (s : Unit) (ρ : VL.Env) : Prop := ∃ w3, ρ = [some sides, some rulings, some i, w3]
def m__law_cross_b2 (sides rulings i : D) (d : D) (s : Unit) : Res (Stp (Unit) (D)) :=
  (opt (dIx rulings i)).bind fun t5 =>
  (opt (dIx t5 (.int 1))).bind fun t6 =>
  (opt (dEq t6 (.str [114, 101, 109, 111, 118, 101]))).bind fun t7 =>
  (toB t7).bind fun b8 =>
  (if b8 = true then (
      (opt (dIx rulings d)).bind fun t9 =>
      (opt (dIx t9 (.int 1))).bind fun t10 =>
      (opt (dEq t10 (.str [107, 101, 101, 112]))).bind fun t11 =>
      (toB t11).bind fun b12 =>
      (if b12 = true then (
          (opt (dIx rulings d)).bind fun t13 =>
          (opt (dIx t13 (.int 0))).bind fun t14 =>
          (opt (dIx rulings i)).bind fun t15 =>
          (opt (dIx t15 (.int 0))).bind fun t16 =>
          (m__law_ge sides t14 t16).bind fun t17 =>
          (opt (truD t17)).bind fun b18 =>
          .ok (b18) : Res (Bool)) else (
          .ok (false) : Res (Bool))).bind fun b19 =>
      .ok (b19) : Res (Bool)) else (
      .ok (false) : Res (Bool))).bind fun b20 =>
  if b20 = true then (
    .ok (.ret (.tup [i, d])))
  else (
    .ok (.next ()))
theorem e__law_cross_b2 (sides rulings i : D) (u3 : Option D) (d : D) (s : Unit) : Sim (m__law_cross_b2 sides rulings i d s) ((opt (bindT (.name 3) d [some sides, some rulings, some i, u3])).bind (sIf (eAnd (eTB (eBin dEq (.ex (eBin dIx (.ex (eBin dIx (.slot 1) (.slot 2))) (.ex (eC (.int 1))))) (.ex (eC (.str [114, 101, 109, 111, 118, 101]))))) (eAnd (eTB (eBin dEq (.ex (eBin dIx (.ex (eBin dIx (.slot 1) (.slot 3))) (.ex (eC (.int 1))))) (.ex (eC (.str [107, 101, 101, 112]))))) (eTru (.ex (eFn [.brw, .brw, .brw] v__law_ge [.bor (.slot 0), .bor (.ex (eBin dIx (.ex (eBin dIx (.slot 1) (.slot 3))) (.ex (eC (.int 0))))), .bor (.ex (eBin dIx (.ex (eBin dIx (.slot 1) (.slot 2))) (.ex (eC (.int 0)))))]))))) (sRet (eUp (eTup [.val (eVar 2), .val (eVar 3)]))) sNil)) (QS RR0 (P__law_cross_2 sides rulings i)) := by
  unfold m__law_cross_b2
  and_intros
  refine Sim.same fun t5 => ?_
  refine Sim.same fun t6 => ?_
  refine Sim.same fun t7 => ?_
  refine Sim.same fun b8 => ?_
  first | refine Sim.bind (P := fun a b => b = (a, [some sides, some rulings, some i, some d])) (Sim.ite ?_ ?_) ?_ | refine Sim.bindR (P := fun a b => b = (a, [some sides, some rulings, some i, some d])) (Sim.ite ?_ ?_) ?_
  · refine Sim.same fun t9 => ?_
    refine Sim.same fun t10 => ?_
    refine Sim.same fun t11 => ?_
    refine Sim.same fun b12 => ?_
    first | refine Sim.bind (P := fun a b => b = (a, [some sides, some rulings, some i, some d])) (Sim.ite ?_ ?_) ?_ | refine Sim.bindR (P := fun a b => b = (a, [some sides, some rulings, some i, some d])) (Sim.ite ?_ ?_) ?_
    · refine Sim.same fun t13 => ?_
      refine Sim.same fun t14 => ?_
      refine Sim.same fun t15 => ?_
      refine Sim.same fun t16 => ?_
      refine Sim.bind (e__law_ge sides t14 t16) ?_
      rintro t17 _ rfl
      and_intros
      refine Sim.same fun b18 => ?_
      exact ⟨_, rfl, rfl⟩
    · exact ⟨_, rfl, rfl⟩
    rintro b19 _ rfl
    and_intros
    exact ⟨_, rfl, rfl⟩
  · exact ⟨_, rfl, rfl⟩
  rintro b20 _ rfl
  and_intros
  refine Sim.ite ?_ ?_
  · refine Sim.app ?_
    and_intros
    exact fSr rfl
  · refine Sim.app ?_
    and_intros
    exact fSn ⟨_, rfl⟩
def m__law_cross_b1 (sides rulings : D) (d : D) (s : Unit) : Res (Stp (Unit) (D)) :=
  (opt (fLen [rulings])).bind fun t3 =>
  (opt (rngOf [t3])).bind fun l4 =>
  (forB l4 () (m__law_cross_b2 sides rulings d)).bind fun r => aftL r fun s21 =>
  .ok (.next ())
theorem e__law_cross_b1 (sides rulings : D) (u2 u3 : Option D) (d : D) (s : Unit) : Sim (m__law_cross_b1 sides rulings d s) ((opt (bindT (.name 2) d [some sides, some rulings, u2, u3])).bind (sFor (eRng [.val (eCall fLen [.bor (.slot 1)])]) (.name 3) (sIf (eAnd (eTB (eBin dEq (.ex (eBin dIx (.ex (eBin dIx (.slot 1) (.slot 2))) (.ex (eC (.int 1))))) (.ex (eC (.str [114, 101, 109, 111, 118, 101]))))) (eAnd (eTB (eBin dEq (.ex (eBin dIx (.ex (eBin dIx (.slot 1) (.slot 3))) (.ex (eC (.int 1))))) (.ex (eC (.str [107, 101, 101, 112]))))) (eTru (.ex (eFn [.brw, .brw, .brw] v__law_ge [.bor (.slot 0), .bor (.ex (eBin dIx (.ex (eBin dIx (.slot 1) (.slot 3))) (.ex (eC (.int 0))))), .bor (.ex (eBin dIx (.ex (eBin dIx (.slot 1) (.slot 2))) (.ex (eC (.int 0)))))]))))) (sRet (eUp (eTup [.val (eVar 2), .val (eVar 3)]))) sNil))) (QS RR0 (P__law_cross_1 sides rulings)) := by
  unfold m__law_cross_b1
  and_intros
  refine Sim.same fun t3 => ?_
  refine Sim.same fun l4 => ?_
  refine Sim.bind (sim_forB (P := P__law_cross_2 sides rulings d) (RR := RR0) (fun d s ρ h => ?_) ?_) ?_
  · obtain ⟨u3, rfl⟩ := h; exact e__law_cross_b2 ..
  · exact ⟨_, rfl⟩
  intro r fl hfl
  refine sim_aftL hfl (fun s21 ρ h => ?_)
  obtain ⟨u3, rfl⟩ := h
  and_intros
  exact fSn ⟨_, _, rfl⟩
def m__law_cross (sides rulings : D) : Res (D) := noexn (
  (opt (fLen [rulings])).bind fun t1 =>
  (opt (rngOf [t1])).bind fun l2 =>
  (forB l2 () (m__law_cross_b1 sides rulings)).bind fun r => aftF r fun s22 =>
  .ok .non)
theorem e__law_cross (sides rulings : D) : Sim (m__law_cross sides rulings) (v__law_cross [sides, rulings]) (fun r q => q = (r, [])) := by
  unfold m__law_cross v__law_cross
  refine Sim.noexn (sim_fn (RR := RR0) (os := fun v : D => (v, ([] : List D))) (E := [some sides, some rulings, none, none]) rfl rr0 ?_)
  unfold b__law_cross
  and_intros
  refine Sim.same fun t1 => ?_
  refine Sim.same fun l2 => ?_
  refine Sim.bind (sim_forB (P := P__law_cross_1 sides rulings) (RR := RR0) (fun d s ρ h => ?_) ?_) ?_
  · obtain ⟨u2, u3, rfl⟩ := h; exact e__law_cross_b1 ..
  · exact ⟨_, _, rfl⟩
  intro r fl hfl
  refine sim_aftF hfl (fun s22 ρ h => ?_)
  obtain ⟨u2, u3, rfl⟩ := h
  and_intros
  exact fR rfl
abbrev P__law_more_1 (sides : D) (u2 : Option D) (s : D × D) (ρ : VL.Env) : Prop := ∃ w4 w5 w6 w7 w8 w9, ρ = [some s.1, some sides, u2, some s.2, w4, w5, w6, w7, w8, w9]
def m__law_more_b1 (sides : D) (d : D) (s : D × D) : Res (D × D) :=
  (opt (fLen [s.2])).bind fun t4 =>
  (opt (dLt (.int 0) t4)).bind fun t5 =>
  (toB t5).bind fun b6 =>
  (if b6 = true then (
      (opt (dLt t4 (.int 30))).bind fun t7 =>
      .ok (t7) : Res (D)) else (
      .ok (.bl false) : Res (D))).bind fun t8 =>
  (toB t8).bind fun b9 =>
  if b9 = true then (
    (opt (fLen [s.2])).bind fun t10 =>
    (ckB (cellD s.1)).bind fun _ =>
    (mDraw s.1 t10).bind fun r11 =>
    (opt (dIx s.2 r11.1)).bind fun t12 =>
    (un2 t12).bind fun p13 =>
    (opt (fLen [sides])).bind fun t14 =>
    (ckB (cellD r11.2)).bind fun _ =>
    (mDraw r11.2 t14).bind fun r15 =>
    (ckB (cellD r15.2)).bind fun _ =>
    (mDraw r15.2 (.int 3)).bind fun r16 =>
    (opt (dIx (.lst [.int 1, .int (-1), .int 0]) r16.1)).bind fun step17 =>
    (opt (dIx p13.1 r15.1)).bind fun t18 =>
    (opt (dAdd t18 step17)).bind fun t19 =>
    (opt (fMin2 [.int 3, t19])).bind fun t20 =>
    (opt (fMax2 [.int 0, t20])).bind fun grade21 =>
    (toL s.2).bind fun l22 =>
    (opt (fLen [s.2])).bind fun t23 =>
    (opt (dAdd t23 (.int 1))).bind fun t24 =>
    (ckB (cellD r16.2)).bind fun _ =>
    (mDraw r16.2 t24).bind fun r25 =>
    (toI r15.1).bind fun i26 =>
    (opt (dSlice p13.1 none (some i26))).bind fun t27 =>
    (opt (dAdd t27 (.tup [grade21]))).bind fun t28 =>
    (opt (dAdd r15.1 (.int 1))).bind fun t29 =>
    (toI t29).bind fun i30 =>
    (opt (dSlice p13.1 (some i30) none)).bind fun t31 =>
    (opt (dAdd t28 t31)).bind fun t32 =>
    (toL s.2).bind fun l33 =>
    (opt (mInsert l33 [r25.1, .tup [t32, p13.2]])).bind fun r34 =>
    .ok (r25.2, .lst r34.1))
  else (
    .ok (s.1, s.2))
theorem e__law_more_b1 (sides : D) (u2 : Option D) (u4 u5 u6 u7 u8 u9 : Option D) (d : D) (s : D × D) : Sim (m__law_more_b1 sides d s) ((opt (bindT (.name 4) d [some s.1, some sides, u2, some s.2, u4, u5, u6, u7, u8, u9])).bind (sIf (eTB (eChain dLt dLt (.ex (eC (.int 0))) (.ex (eCall fLen [.bor (.slot 3)])) (.ex (eC (.int 30))))) (sSeq (sAsg (.tup [.name 5, .name 6]) (eBin dIx (.slot 3) (.ex (eFn [.io, .brw] v__law_draw [.io 0, .bor (.ex (eCall fLen [.bor (.slot 3)]))])))) (sSeq (sSet 7 (eFn [.io, .brw] v__law_draw [.io 0, .bor (.ex (eCall fLen [.bor (.slot 1)]))])) (sSeq (sSet 8 (eBin dIx (.ex (eLst [.val (eC (.int 1)), .val (eNeg (eC (.int 1))), .val (eC (.int 0))])) (.ex (eFn [.io, .brw] v__law_draw [.io 0, .bor (.ex (eC (.int 3)))])))) (sSeq (sSet 9 (eCall fMax2 [.bor (.ex (eC (.int 0))), .bor (.ex (eCall fMin2 [.bor (.ex (eC (.int 3))), .bor (.ex (eBin dAdd (.ex (eBin dIx (.slot 5) (.slot 7))) (.slot 8)))]))])) (sExpr (eMut 3 mInsert [.val (eFn [.io, .brw] v__law_draw [.io 0, .bor (.ex (eBin dAdd (.ex (eCall fLen [.bor (.slot 3)])) (.ex (eC (.int 1)))))]), .val (eTup [.val (eBin dAdd (.ex (eBin dAdd (.ex (eSl (.slot 5) none (some (eVar 7)))) (.ex (eTup [.val (eVar 9)])))) (.ex (eSl (.slot 5) (some (eBin dAdd (.slot 7) (.ex (eC (.int 1))))) none))), .val (eVar 6)])])))))) sNil)) (QN (P__law_more_1 sides u2)) := by
  unfold m__law_more_b1
  and_intros
  refine Sim.same fun t4 => ?_
  refine Sim.same fun t5 => ?_
  refine Sim.same fun b6 => ?_
  first | refine Sim.bind (P := fun a b => b = (a, [some s.1, some sides, u2, some s.2, some d, u5, u6, u7, u8, u9])) (Sim.ite ?_ ?_) ?_ | refine Sim.bindR (P := fun a b => b = (a, [some s.1, some sides, u2, some s.2, some d, u5, u6, u7, u8, u9])) (Sim.ite ?_ ?_) ?_
  · refine Sim.same fun t7 => ?_
    exact ⟨_, rfl, rfl⟩
  · exact ⟨_, rfl, rfl⟩
  rintro t8 _ rfl
  and_intros
  refine Sim.same fun b9 => ?_
  refine Sim.ite ?_ ?_
  · refine Sim.app ?_
    and_intros
    refine Sim.same fun t10 => ?_
    refine Sim.same fun _ => ?_
    refine Sim.bind (sim_draw s.1 t10) ?_
    rintro r11 _ rfl
    and_intros
    refine Sim.same fun t12 => ?_
    refine Sim.same fun p13 => ?_
    refine Sim.app ?_
    and_intros
    refine Sim.same fun t14 => ?_
    refine Sim.same fun _ => ?_
    refine Sim.bind (sim_draw r11.2 t14) ?_
    rintro r15 _ rfl
    and_intros
    refine Sim.app ?_
    and_intros
    refine Sim.same fun _ => ?_
    refine Sim.bind (sim_draw r15.2 (.int 3)) ?_
    rintro r16 _ rfl
    and_intros
    refine Sim.same fun step17 => ?_
    refine Sim.app ?_
    and_intros
    refine Sim.same fun t18 => ?_
    refine Sim.same fun t19 => ?_
    refine Sim.same fun t20 => ?_
    refine Sim.same fun grade21 => ?_
    refine Sim.app ?_
    and_intros
    refine Sim.same fun l22 => ?_
    refine Sim.same fun t23 => ?_
    refine Sim.same fun t24 => ?_
    refine Sim.same fun _ => ?_
    refine Sim.bind (sim_draw r16.2 t24) ?_
    rintro r25 _ rfl
    and_intros
    refine Sim.same fun i26 => ?_
    refine Sim.same fun t27 => ?_
    refine Sim.same fun t28 => ?_
    refine Sim.same fun t29 => ?_
    refine Sim.same fun i30 => ?_
    refine Sim.same fun t31 => ?_
    refine Sim.same fun t32 => ?_
    refine Sim.same fun l33 => ?_
    refine Sim.same fun r34 => ?_
    exact fNn ⟨_, _, _, _, _, _, rfl⟩
  · refine Sim.app ?_
    and_intros
    exact fNn ⟨_, _, _, _, _, _, rfl⟩
def m__law_more (feed sides rulings : D) : Res (D × D) := noexn (
  (opt (fList [rulings])).bind fun found1 =>
  (ckB (cellD feed)).bind fun _ =>
  (mDraw feed (.int 5)).bind fun r2 =>
  (opt (rngOf [r2.1])).bind fun l3 =>
  (forN l3 (r2.2, found1) (m__law_more_b1 sides)).bind fun s35 =>
  .ok (s35.2, s35.1))
theorem e__law_more (feed sides rulings : D) : Sim (m__law_more feed sides rulings) (v__law_more [feed, sides, rulings]) (fun r q => q = (r.1, [r.2])) := by
  unfold m__law_more v__law_more
  refine Sim.noexn (sim_fn (RR := (RR1 0)) (os := fun v : D × D => (v.1, [v.2])) (E := [some feed, some sides, some rulings, none, none, none, none, none, none, none]) rfl rr1 ?_)
  unfold b__law_more
  and_intros
  refine Sim.same fun found1 => ?_
  refine Sim.app ?_
  and_intros
  refine Sim.same fun _ => ?_
  refine Sim.bind (sim_draw feed (.int 5)) ?_
  rintro r2 _ rfl
  and_intros
  refine Sim.same fun l3 => ?_
  refine Sim.bind (sim_forN (P := P__law_more_1 sides (some rulings)) (fun d s ρ h => ?_) ?_) ?_
  · obtain ⟨u4, u5, u6, u7, u8, u9, rfl⟩ := h; exact e__law_more_b1 ..
  · exact ⟨_, _, _, _, _, _, rfl⟩
  intro s35 fl hfl
  refine sim_aftN hfl (fun ρ h => ?_)
  obtain ⟨u4, u5, u6, u7, u8, u9, rfl⟩ := h
  and_intros
  exact fR ⟨rfl, rfl⟩
def m__law_says (sides ruling case : D) : Res (D) := noexn (
  (opt (dIx ruling (.int 1))).bind fun t1 =>
  (opt (dEq t1 (.str [114, 101, 109, 111, 118, 101]))).bind fun t2 =>
  (toB t2).bind fun b3 =>
  if b3 = true then (
    (opt (dIx ruling (.int 0))).bind fun t4 =>
    (m__law_ge sides case t4).bind fun t5 =>
    .ok t5)
  else (
    (opt (dIx ruling (.int 0))).bind fun t6 =>
    (m__law_ge sides t6 case).bind fun t7 =>
    .ok t7))
theorem e__law_says (sides ruling case : D) : Sim (m__law_says sides ruling case) (v__law_says [sides, ruling, case]) (fun r q => q = (r, [])) := by
  unfold m__law_says v__law_says
  refine Sim.noexn (sim_fn (RR := RR0) (os := fun v : D => (v, ([] : List D))) (E := [some sides, some ruling, some case]) rfl rr0 ?_)
  unfold b__law_says
  and_intros
  refine Sim.same fun t1 => ?_
  refine Sim.same fun t2 => ?_
  refine Sim.same fun b3 => ?_
  refine Sim.ite ?_ ?_
  · refine Sim.app ?_
    and_intros
    refine Sim.same fun t4 => ?_
    refine Sim.bind (e__law_ge sides case t4) ?_
    rintro t5 _ rfl
    and_intros
    exact fR rfl
  · refine Sim.app ?_
    and_intros
    refine Sim.app ?_
    and_intros
    refine Sim.same fun t6 => ?_
    refine Sim.bind (e__law_ge sides t6 case) ?_
    rintro t7 _ rfl
    and_intros
    exact fR rfl
abbrev P__law_passed_1 (sides rulings k : D) (s : Unit) (ρ : VL.Env) : Prop := ∃ w3, ρ = [some sides, some rulings, some k, w3]
def m__law_passed_b1 (sides rulings k : D) (d : D) (s : Unit) : Res (Stp (Unit) (D)) :=
  (opt (dNe d k)).bind fun t3 =>
  (toB t3).bind fun b4 =>
  (if b4 = true then (
      (opt (dIx rulings d)).bind fun t5 =>
      (opt (dIx t5 (.int 1))).bind fun t6 =>
      (opt (dIx rulings k)).bind fun t7 =>
      (opt (dIx t7 (.int 1))).bind fun t8 =>
      (opt (dEq t6 t8)).bind fun t9 =>
      (toB t9).bind fun b10 =>
      (if b10 = true then (
          (opt (dIx rulings d)).bind fun t11 =>
          (opt (dIx rulings k)).bind fun t12 =>
          (opt (dIx t12 (.int 0))).bind fun t13 =>
          (m__law_says sides t11 t13).bind fun t14 =>
          (opt (truD t14)).bind fun b15 =>
          .ok (b15) : Res (Bool)) else (
          .ok (false) : Res (Bool))).bind fun b16 =>
      .ok (b16) : Res (Bool)) else (
      .ok (false) : Res (Bool))).bind fun b17 =>
  if b17 = true then (
    (opt (dIx rulings d)).bind fun t18 =>
    (opt (dIx t18 (.int 0))).bind fun t19 =>
    (opt (dIx rulings k)).bind fun t20 =>
    (opt (dIx t20 (.int 0))).bind fun t21 =>
    (opt (dNe t19 t21)).bind fun t22 =>
    (toB t22).bind fun b23 =>
    (if b23 = true then (
          .ok (true) : Res (Bool)) else (
          (opt (dLt d k)).bind fun t24 =>
          (toB t24).bind fun b25 =>
          .ok (b25) : Res (Bool))).bind fun b26 =>
    if b26 = true then (
      .ok (.ret (.bl true)))
    else (
      .ok (.next ())))
  else (
    .ok (.next ()))
theorem e__law_passed_b1 (sides rulings k : D) (u3 : Option D) (d : D) (s : Unit) : Sim (m__law_passed_b1 sides rulings k d s) ((opt (bindT (.name 3) d [some sides, some rulings, some k, u3])).bind (sIf (eAnd (eTB (eBin dNe (.slot 3) (.slot 2))) (eAnd (eTB (eBin dEq (.ex (eBin dIx (.ex (eBin dIx (.slot 1) (.slot 3))) (.ex (eC (.int 1))))) (.ex (eBin dIx (.ex (eBin dIx (.slot 1) (.slot 2))) (.ex (eC (.int 1))))))) (eTru (.ex (eFn [.brw, .brw, .brw] v__law_says [.bor (.slot 0), .bor (.ex (eBin dIx (.slot 1) (.slot 3))), .bor (.ex (eBin dIx (.ex (eBin dIx (.slot 1) (.slot 2))) (.ex (eC (.int 0)))))]))))) (sIf (eOr (eTB (eBin dNe (.ex (eBin dIx (.ex (eBin dIx (.slot 1) (.slot 3))) (.ex (eC (.int 0))))) (.ex (eBin dIx (.ex (eBin dIx (.slot 1) (.slot 2))) (.ex (eC (.int 0))))))) (eTB (eBin dLt (.slot 3) (.slot 2)))) (sRet (eUp (eC (.bl true)))) sNil) sNil)) (QS RR0 (P__law_passed_1 sides rulings k)) := by
  unfold m__law_passed_b1
  and_intros
  refine Sim.same fun t3 => ?_
  refine Sim.same fun b4 => ?_
  first | refine Sim.bind (P := fun a b => b = (a, [some sides, some rulings, some k, some d])) (Sim.ite ?_ ?_) ?_ | refine Sim.bindR (P := fun a b => b = (a, [some sides, some rulings, some k, some d])) (Sim.ite ?_ ?_) ?_
  · refine Sim.same fun t5 => ?_
    refine Sim.same fun t6 => ?_
    refine Sim.same fun t7 => ?_
    refine Sim.same fun t8 => ?_
    refine Sim.same fun t9 => ?_
    refine Sim.same fun b10 => ?_
    first | refine Sim.bind (P := fun a b => b = (a, [some sides, some rulings, some k, some d])) (Sim.ite ?_ ?_) ?_ | refine Sim.bindR (P := fun a b => b = (a, [some sides, some rulings, some k, some d])) (Sim.ite ?_ ?_) ?_
    · refine Sim.same fun t11 => ?_
      refine Sim.same fun t12 => ?_
      refine Sim.same fun t13 => ?_
      refine Sim.bind (e__law_says sides t11 t13) ?_
      rintro t14 _ rfl
      and_intros
      refine Sim.same fun b15 => ?_
      exact ⟨_, rfl, rfl⟩
    · exact ⟨_, rfl, rfl⟩
    rintro b16 _ rfl
    and_intros
    exact ⟨_, rfl, rfl⟩
  · exact ⟨_, rfl, rfl⟩
  rintro b17 _ rfl
  and_intros
  refine Sim.ite ?_ ?_
  · refine Sim.app ?_
    and_intros
    refine Sim.same fun t18 => ?_
    refine Sim.same fun t19 => ?_
    refine Sim.same fun t20 => ?_
    refine Sim.same fun t21 => ?_
    refine Sim.same fun t22 => ?_
    refine Sim.same fun b23 => ?_
    first | refine Sim.bind (P := fun a b => b = (a, [some sides, some rulings, some k, some d])) (Sim.ite ?_ ?_) ?_ | refine Sim.bindR (P := fun a b => b = (a, [some sides, some rulings, some k, some d])) (Sim.ite ?_ ?_) ?_
    · exact ⟨_, rfl, rfl⟩
    · refine Sim.same fun t24 => ?_
      refine Sim.same fun b25 => ?_
      exact ⟨_, rfl, rfl⟩
    rintro b26 _ rfl
    and_intros
    refine Sim.ite ?_ ?_
    · refine Sim.app ?_
      and_intros
      exact fSr rfl
    · refine Sim.app ?_
      and_intros
      exact fSn ⟨_, rfl⟩
  · refine Sim.app ?_
    and_intros
    exact fSn ⟨_, rfl⟩
def m__law_passed (sides rulings k : D) : Res (D) := noexn (
  (opt (fLen [rulings])).bind fun t1 =>
  (opt (rngOf [t1])).bind fun l2 =>
  (forB l2 () (m__law_passed_b1 sides rulings k)).bind fun r => aftF r fun s27 =>
  .ok (.bl false))
theorem e__law_passed (sides rulings k : D) : Sim (m__law_passed sides rulings k) (v__law_passed [sides, rulings, k]) (fun r q => q = (r, [])) := by
  unfold m__law_passed v__law_passed
  refine Sim.noexn (sim_fn (RR := RR0) (os := fun v : D => (v, ([] : List D))) (E := [some sides, some rulings, some k, none]) rfl rr0 ?_)
  unfold b__law_passed
  and_intros
  refine Sim.same fun t1 => ?_
  refine Sim.same fun l2 => ?_
  refine Sim.bind (sim_forB (P := P__law_passed_1 sides rulings k) (RR := RR0) (fun d s ρ h => ?_) ?_) ?_
  · obtain ⟨u3, rfl⟩ := h; exact e__law_passed_b1 ..
  · exact ⟨_, rfl⟩
  intro r fl hfl
  refine sim_aftF hfl (fun s27 ρ h => ?_)
  obtain ⟨u3, rfl⟩ := h
  and_intros
  exact fR rfl
abbrev P__law_bound_1 (sides rulings : D) (u2 u6 : Option D) (s : D) (ρ : VL.Env) : Prop := ∃ w4 w5, ρ = [some sides, some rulings, u2, some s, w4, w5, u6]
def m__law_bound_c2 (sides case : D) (d : D) : Res (Option D) :=
  (m__law_says sides d case).bind fun t3 =>
  (opt (truD t3)).bind fun b4 =>
  if b4 = true then (
    (opt (dIx d (.int 1))).bind fun t5 =>
    .ok (some t5))
  else .ok none
theorem e__law_bound_c2 (sides case : D) (u1 u2 u3 u5 : Option D) (d : D) : Sim (m__law_bound_c2 sides case d) (lcIt [6] (.name 6) (eTru (.ex (eFn [.brw, .brw, .brw] v__law_says [.bor (.slot 0), .bor (.slot 6), .bor (.slot 4)]))) (eBin dIx (.slot 6) (.ex (eC (.int 1)))) d [some sides, u1, u2, u3, some case, u5, none]) (fun a b => b = (a, [some sides, u1, u2, u3, some case, u5, none])) := by
  unfold m__law_bound_c2 lcIt
  and_intros
  refine Sim.bind (e__law_says sides d case) ?_
  rintro t3 _ rfl
  and_intros
  refine Sim.same fun b4 => ?_
  refine Sim.ite ?_ ?_
  · refine Sim.same fun t5 => ?_
    exact ⟨_, rfl, rfl⟩
  · exact ⟨_, rfl, rfl⟩
def m__law_bound_b1 (sides rulings : D) (d : D) (s : D) : Res (D) :=
  (opt (itD rulings)).bind fun l2 =>
  (lenG l2).bind fun _ =>
  (mFil l2 (m__law_bound_c2 sides d)).bind fun said6 =>
  (toL s).bind fun l7 =>
  (opt (dSlice (.lst said6) none (some 1))).bind fun t8 =>
  (toL s).bind fun l9 =>
  (opt (mAppend l9 [t8])).bind fun r10 =>
  .ok (.lst r10.1)
theorem e__law_bound_b1 (sides rulings : D) (u2 u6 : Option D) (u4 u5 : Option D) (d : D) (s : D) : Sim (m__law_bound_b1 sides rulings d s) ((opt (bindT (.name 4) d [some sides, some rulings, u2, some s, u4, u5, u6])).bind (sSeq (sSet 5 (eLC (eIt (eVar 1)) [6] (.name 6) (eTru (.ex (eFn [.brw, .brw, .brw] v__law_says [.bor (.slot 0), .bor (.slot 6), .bor (.slot 4)]))) (eBin dIx (.slot 6) (.ex (eC (.int 1)))))) (sExpr (eMut 3 mAppend [.val (eSl (.slot 5) none (some (eC (.int 1))))])))) (QN (P__law_bound_1 sides rulings u2 u6)) := by
  unfold m__law_bound_b1
  and_intros
  refine Sim.same fun l2 => ?_
  refine Sim.same fun _ => ?_
  refine Sim.bind (sim_fil (fun d => e__law_bound_c2 ..)) ?_
  rintro said6 _ rfl
  and_intros
  refine Sim.app ?_
  and_intros
  refine Sim.same fun l7 => ?_
  refine Sim.same fun t8 => ?_
  refine Sim.same fun l9 => ?_
  refine Sim.same fun r10 => ?_
  exact fNn ⟨_, _, rfl⟩
def m__law_bound (sides rulings every : D) : Res (D) := noexn (
  (opt (itD every)).bind fun l1 =>
  (forN l1 (.lst []) (m__law_bound_b1 sides rulings)).bind fun s11 =>
  .ok s11)
theorem e__law_bound (sides rulings every : D) : Sim (m__law_bound sides rulings every) (v__law_bound [sides, rulings, every]) (fun r q => q = (r, [])) := by
  unfold m__law_bound v__law_bound
  refine Sim.noexn (sim_fn (RR := RR0) (os := fun v : D => (v, ([] : List D))) (E := [some sides, some rulings, some every, none, none, none, none]) rfl rr0 ?_)
  unfold b__law_bound
  and_intros
  refine Sim.app ?_
  and_intros
  refine Sim.same fun l1 => ?_
  refine Sim.bind (sim_forN (P := P__law_bound_1 sides rulings (some every) none) (fun d s ρ h => ?_) ?_) ?_
  · obtain ⟨u4, u5, rfl⟩ := h; exact e__law_bound_b1 ..
  · exact ⟨_, _, rfl⟩
  intro s11 fl hfl
  refine sim_aftN hfl (fun ρ h => ?_)
  obtain ⟨u4, u5, rfl⟩ := h
  and_intros
  exact fR rfl
def m__law_asks_c1 (sides rulings : D) (d : D) : Res (Option D) :=
  (m__law_passed sides rulings d).bind fun t14 =>
  (opt (truD t14)).bind fun b15 =>
  if (!b15) = true then (
    (opt (dIx rulings d)).bind fun t16 =>
    .ok (some t16))
  else .ok none
theorem e__law_asks_c1 (sides rulings : D) (u2 u3 u4 u5 u6 u7 u8 : Option D) (d : D) : Sim (m__law_asks_c1 sides rulings d) (lcIt [9] (.name 9) (eNot (eTru (.ex (eFn [.brw, .brw, .brw] v__law_passed [.bor (.slot 0), .bor (.slot 1), .bor (.slot 9)])))) (eBin dIx (.slot 1) (.slot 9)) d [some sides, some rulings, u2, u3, u4, u5, u6, u7, u8, none]) (fun a b => b = (a, [some sides, some rulings, u2, u3, u4, u5, u6, u7, u8, none])) := by
  unfold m__law_asks_c1 lcIt
  and_intros
  refine Sim.bind (e__law_passed sides rulings d) ?_
  rintro t14 _ rfl
  and_intros
  refine Sim.same fun b15 => ?_
  refine Sim.ite ?_ ?_
  · refine Sim.same fun t16 => ?_
    exact ⟨_, rfl, rfl⟩
  · exact ⟨_, rfl, rfl⟩
def m__law_asks_j2 : Res (D) :=
  .ok (.bl true)
theorem e__law_asks_j2 (u0 u1 u2 u3 u4 u5 u6 u7 u8 u9 : Option D) : Sim (m__law_asks_j2 ) ((sRet (eUp (eC (.bl true)))) [u0, u1, u2, u3, u4, u5, u6, u7, u8, u9]) (QR RR0) := by
  unfold m__law_asks_j2
  and_intros
  exact fR rfl
abbrev P__law_asks_3 (sides due every bound : D) (u1 u2 u3 u4 u5 : Option D) (s : Unit) (ρ : VL.Env) : Prop := ∃ w9, ρ = [some sides, u1, u2, u3, u4, u5, some due, some every, some bound, w9]
def m__law_asks_b3 (sides due every bound : D) (d : D) (s : Unit) : Res (Stp (Unit) (D)) :=
  (toI d).bind fun i52 =>
  (opt (dSlice due none (some i52))).bind fun t53 =>
  (opt (dAdd d (.int 1))).bind fun t54 =>
  (toI t54).bind fun i55 =>
  (opt (dSlice due (some i55) none)).bind fun t56 =>
  (opt (dAdd t53 t56)).bind fun t57 =>
  (m__law_bound sides t57 every).bind fun t58 =>
  (opt (dEq t58 bound)).bind fun t59 =>
  (toB t59).bind fun b60 =>
  if b60 = true then (
    .ok (.ret (.bl false)))
  else (
    .ok (.next ()))
theorem e__law_asks_b3 (sides due every bound : D) (u1 u2 u3 u4 u5 : Option D) (u9 : Option D) (d : D) (s : Unit) : Sim (m__law_asks_b3 sides due every bound d s) ((opt (bindT (.name 9) d [some sides, u1, u2, u3, u4, u5, some due, some every, some bound, u9])).bind (sIf (eTB (eBin dEq (.ex (eFn [.brw, .brw, .brw] v__law_bound [.bor (.slot 0), .bor (.ex (eBin dAdd (.ex (eSl (.slot 6) none (some (eVar 9)))) (.ex (eSl (.slot 6) (some (eBin dAdd (.slot 9) (.ex (eC (.int 1))))) none)))), .bor (.slot 7)])) (.slot 8))) (sRet (eUp (eC (.bl false)))) sNil)) (QS RR0 (P__law_asks_3 sides due every bound u1 u2 u3 u4 u5)) := by
  unfold m__law_asks_b3
  and_intros
  refine Sim.same fun i52 => ?_
  refine Sim.same fun t53 => ?_
  refine Sim.same fun t54 => ?_
  refine Sim.same fun i55 => ?_
  refine Sim.same fun t56 => ?_
  refine Sim.same fun t57 => ?_
  refine Sim.bind (e__law_bound sides t57 every) ?_
  rintro t58 _ rfl
  and_intros
  refine Sim.same fun t59 => ?_
  refine Sim.same fun b60 => ?_
  refine Sim.ite ?_ ?_
  · refine Sim.app ?_
    and_intros
    exact fSr rfl
  · refine Sim.app ?_
    and_intros
    exact fSn ⟨_, rfl⟩
def m__law_asks (sides rulings : D) : Res (D) :=
  (m_Book (.obj "Book" []) sides rulings).bind fun r1 =>
  (mkR r1.1 [r1.2]).bind fun book2 =>
  (m__law_cross sides rulings).bind fun pair3 =>
  (tryM ["Crossed"] (
    (m_least_book book2).bind fun told4 =>
    .ok (.next (told4)) : Res (Stp (D) (D))) (fun e =>
    (opt (dNotN pair3 .non)).bind fun t5 =>
    (toB t5).bind fun b6 =>
    (if b6 = true then (
      (exF ["Crossed"] "i" e).bind fun t7 =>
      (exF ["Crossed"] "j" e).bind fun t8 =>
      (opt (dEq (.tup [t7, t8]) pair3)).bind fun t9 =>
      .ok (t9) : Res (D)) else (
      .ok (.bl false) : Res (D))).bind fun t10 =>
    (nc t10).bind fun _ =>
    .ok (.ret t10))).bind fun r => aftF r fun s11 =>
  (opt (fLen [rulings])).bind fun t12 =>
  (opt (rngOf [t12])).bind fun l13 =>
  (lenG l13).bind fun _ =>
  (mFil l13 (m__law_asks_c1 sides rulings)).bind fun due17 =>
  (opt (dNotN pair3 .non)).bind fun t18 =>
  (toB t18).bind fun b19 =>
  (if b19 = true then (
    .ok (true) : Res (Bool)) else (
    (opt (fIsO [("Book", true)] [s11, .non])).bind fun t20 =>
    (opt (truD t20)).bind fun b21 =>
    (if (!b21) = true then (
        .ok (true) : Res (Bool)) else (
        (fldR ["Book"] "sides" s11).bind fun t22 =>
        (opt (dNe t22 sides)).bind fun t23 =>
        (toB t23).bind fun b24 =>
        (if b24 = true then (
            .ok (true) : Res (Bool)) else (
            (fldR ["Book"] "rulings" s11).bind fun t25 =>
            (opt (fList [t25])).bind fun t26 =>
            (opt (dNe t26 (.lst due17))).bind fun t27 =>
            (toB t27).bind fun b28 =>
            .ok (b28) : Res (Bool))).bind fun b29 =>
        .ok (b29) : Res (Bool))).bind fun b30 =>
    .ok (b30) : Res (Bool))).bind fun b31 =>
  if b31 = true then (
    .ok (.bl false))
  else (
    (m_least_book s11).bind fun t32 =>
    (fldR ["Book"] "rulings" t32).bind fun t33 =>
    (opt (fList [t33])).bind fun t34 =>
    (opt (dNe t34 (.lst due17))).bind fun t35 =>
    (toB t35).bind fun b36 =>
    (if b36 = true then (
        .ok (true) : Res (Bool)) else (
        (fldR ["Book"] "rulings" book2).bind fun t37 =>
        (opt (fList [t37])).bind fun t38 =>
        (opt (dNe t38 rulings)).bind fun t39 =>
        (toB t39).bind fun b40 =>
        .ok (b40) : Res (Bool))).bind fun b41 =>
    if b41 = true then (
      .ok (.bl false))
    else (
      (opt (fLen [sides])).bind fun t42 =>
      (opt (dLt t42 (.int 4))).bind fun t43 =>
      (toB t43).bind fun b44 =>
      if b44 = true then (
        (m__law_cases sides).bind fun every45 =>
        (m__law_bound sides rulings every45).bind fun bound46 =>
        (m__law_bound sides (.lst due17) every45).bind fun t47 =>
        (opt (dNe t47 bound46)).bind fun t48 =>
        (toB t48).bind fun b49 =>
        if b49 = true then (
          .ok (.bl false))
        else (
          (opt (fLen [.lst due17])).bind fun t50 =>
          (opt (rngOf [t50])).bind fun l51 =>
          (forB l51 () (m__law_asks_b3 sides (.lst due17) every45 bound46)).bind fun r => aftF r fun s61 =>
          m__law_asks_j2))
      else (
        m__law_asks_j2)))
theorem e__law_asks (sides rulings : D) : Sim (m__law_asks sides rulings) (v__law_asks [sides, rulings]) (fun r q => q = (r, [])) := by
  unfold m__law_asks v__law_asks
  refine (sim_fn (RR := RR0) (os := fun v : D => (v, ([] : List D))) (E := [some sides, some rulings, none, none, none, none, none, none, none, none]) rfl rr0 ?_)
  unfold b__law_asks
  and_intros
  refine Sim.bind (e_Book (.obj "Book" []) sides rulings) ?_
  rintro r1 _ rfl
  and_intros
  refine Sim.same fun book2 => ?_
  refine Sim.app ?_
  and_intros
  refine Sim.bind (e__law_cross sides rulings) ?_
  rintro pair3 _ rfl
  and_intros
  refine Sim.app ?_
  and_intros
  refine Sim.bind (sim_try (P := (fun (s : D) (ρ : VL.Env) => ∃ w5, ρ = [some sides, some rulings, some book2, some pair3, some s, w5, none, none, none, none])) (RR := RR0) ?_ (fun e => ?_)) ?_
  · and_intros
    refine Sim.bind (e_least_book book2) ?_
    rintro told4 _ rfl
    and_intros
    exact fFn ⟨_, rfl⟩
  · and_intros
    refine Sim.same fun t5 => ?_
    refine Sim.same fun b6 => ?_
    first | refine Sim.bind (P := fun a b => b = (a, [some sides, some rulings, some book2, some pair3, none, some e, none, none, none, none])) (Sim.ite ?_ ?_) ?_ | refine Sim.bindR (P := fun a b => b = (a, [some sides, some rulings, some book2, some pair3, none, some e, none, none, none, none])) (Sim.ite ?_ ?_) ?_
    · refine Sim.same fun t7 => ?_
      refine Sim.same fun t8 => ?_
      refine Sim.same fun t9 => ?_
      exact ⟨_, rfl, rfl⟩
    · exact ⟨_, rfl, rfl⟩
    rintro t10 _ rfl
    and_intros
    refine Sim.same fun _ => ?_
    exact fFr rfl
  intro r fl hfl
  refine sim_aftF hfl (fun s11 ρ h => ?_)
  obtain ⟨u5, rfl⟩ := h
  and_intros
  refine Sim.same fun t12 => ?_
  refine Sim.same fun l13 => ?_
  refine Sim.same fun _ => ?_
  refine Sim.bind (sim_fil (fun d => e__law_asks_c1 ..)) ?_
  rintro due17 _ rfl
  and_intros
  refine Sim.app ?_
  and_intros
  refine Sim.same fun t18 => ?_
  refine Sim.same fun b19 => ?_
  first | refine Sim.bind (P := fun a b => b = (a, [some sides, some rulings, some book2, some pair3, some s11, u5, some (.lst due17), none, none, none])) (Sim.ite ?_ ?_) ?_ | refine Sim.bindR (P := fun a b => b = (a, [some sides, some rulings, some book2, some pair3, some s11, u5, some (.lst due17), none, none, none])) (Sim.ite ?_ ?_) ?_
  · exact ⟨_, rfl, rfl⟩
  · refine Sim.same fun t20 => ?_
    refine Sim.same fun b21 => ?_
    first | refine Sim.bind (P := fun a b => b = (a, [some sides, some rulings, some book2, some pair3, some s11, u5, some (.lst due17), none, none, none])) (Sim.ite ?_ ?_) ?_ | refine Sim.bindR (P := fun a b => b = (a, [some sides, some rulings, some book2, some pair3, some s11, u5, some (.lst due17), none, none, none])) (Sim.ite ?_ ?_) ?_
    · exact ⟨_, rfl, rfl⟩
    · refine Sim.same fun t22 => ?_
      refine Sim.same fun t23 => ?_
      refine Sim.same fun b24 => ?_
      first | refine Sim.bind (P := fun a b => b = (a, [some sides, some rulings, some book2, some pair3, some s11, u5, some (.lst due17), none, none, none])) (Sim.ite ?_ ?_) ?_ | refine Sim.bindR (P := fun a b => b = (a, [some sides, some rulings, some book2, some pair3, some s11, u5, some (.lst due17), none, none, none])) (Sim.ite ?_ ?_) ?_
      · exact ⟨_, rfl, rfl⟩
      · refine Sim.same fun t25 => ?_
        refine Sim.same fun t26 => ?_
        refine Sim.same fun t27 => ?_
        refine Sim.same fun b28 => ?_
        exact ⟨_, rfl, rfl⟩
      rintro b29 _ rfl
      and_intros
      exact ⟨_, rfl, rfl⟩
    rintro b30 _ rfl
    and_intros
    exact ⟨_, rfl, rfl⟩
  rintro b31 _ rfl
  and_intros
  refine Sim.ite ?_ ?_
  · refine Sim.app ?_
    and_intros
    exact fR rfl
  · refine Sim.app ?_
    and_intros
    refine Sim.app ?_
    and_intros
    refine Sim.bind (e_least_book s11) ?_
    rintro t32 _ rfl
    and_intros
    refine Sim.same fun t33 => ?_
    refine Sim.same fun t34 => ?_
    refine Sim.same fun t35 => ?_
    refine Sim.same fun b36 => ?_
    first | refine Sim.bind (P := fun a b => b = (a, [some sides, some rulings, some book2, some pair3, some s11, u5, some (.lst due17), none, none, none])) (Sim.ite ?_ ?_) ?_ | refine Sim.bindR (P := fun a b => b = (a, [some sides, some rulings, some book2, some pair3, some s11, u5, some (.lst due17), none, none, none])) (Sim.ite ?_ ?_) ?_
    · exact ⟨_, rfl, rfl⟩
    · refine Sim.same fun t37 => ?_
      refine Sim.same fun t38 => ?_
      refine Sim.same fun t39 => ?_
      refine Sim.same fun b40 => ?_
      exact ⟨_, rfl, rfl⟩
    rintro b41 _ rfl
    and_intros
    refine Sim.ite ?_ ?_
    · refine Sim.app ?_
      and_intros
      exact fR rfl
    · refine Sim.app ?_
      and_intros
      refine Sim.app ?_
      and_intros
      refine Sim.same fun t42 => ?_
      refine Sim.same fun t43 => ?_
      refine Sim.same fun b44 => ?_
      refine Sim.ite ?_ ?_
      · refine Sim.app ?_
        and_intros
        refine Sim.bind (e__law_cases sides) ?_
        rintro every45 _ rfl
        and_intros
        refine Sim.app ?_
        and_intros
        refine Sim.bind (e__law_bound sides rulings every45) ?_
        rintro bound46 _ rfl
        and_intros
        refine Sim.app ?_
        and_intros
        refine Sim.bind (e__law_bound sides (.lst due17) every45) ?_
        rintro t47 _ rfl
        and_intros
        refine Sim.same fun t48 => ?_
        refine Sim.same fun b49 => ?_
        refine Sim.ite ?_ ?_
        · refine Sim.app ?_
          and_intros
          exact fR rfl
        · refine Sim.app ?_
          and_intros
          refine Sim.app ?_
          and_intros
          refine Sim.same fun t50 => ?_
          refine Sim.same fun l51 => ?_
          refine Sim.bind (sim_forB (P := P__law_asks_3 sides (.lst due17) every45 bound46 (some rulings) (some book2) (some pair3) (some s11) u5) (RR := RR0) (fun d s ρ h => ?_) ?_) ?_
          · obtain ⟨u9, rfl⟩ := h; exact e__law_asks_b3 ..
          · exact ⟨_, rfl⟩
          intro r fl hfl
          refine sim_aftF hfl (fun s61 ρ h => ?_)
          obtain ⟨u9, rfl⟩ := h
          exact (e__law_asks_j2 ..)
      · refine Sim.app ?_
        and_intros
        exact Sim.app (e__law_asks_j2 ..)
abbrev P_law_1 (u0 : Option D) (s : D) (ρ : VL.Env) : Prop := ∃ w2 w3 w4, ρ = [u0, some s, w2, w3, w4]
def m_law_b1 (d : D) (s : D) : Res (Stp (D) (D)) :=
  (ckB (cellD s)).bind fun _ =>
  (m__law_some_book s).bind fun r3 =>
  (un2 r3.1).bind fun p4 =>
  (ckB (cellD r3.2)).bind fun _ =>
  (m__law_more r3.2 p4.1 p4.2).bind fun r5 =>
  (m__law_asks p4.1 r5.1).bind fun t6 =>
  (opt (truD t6)).bind fun b7 =>
  if (!b7) = true then (
    .ok (.ret (.bl false)))
  else (
    .ok (.next (r5.2)))
theorem e_law_b1 (u0 : Option D) (u2 u3 u4 : Option D) (d : D) (s : D) : Sim (m_law_b1  d s) ((opt (bindT (.name 2) d [u0, some s, u2, u3, u4])).bind (sSeq (sAsg (.tup [.name 3, .name 4]) (eFn [.io] v__law_some_book [.io 1])) (sIf (eNot (eTru (.ex (eFn [.fz, .brw] v__law_asks [.val (eVar 3), .bor (.ex (eFn [.io, .brw, .brw] v__law_more [.io 1, .bor (.slot 3), .bor (.slot 4)]))])))) (sRet (eC (.bl false))) sNil))) (QS RR0 (P_law_1 u0)) := by
  unfold m_law_b1
  and_intros
  refine Sim.same fun _ => ?_
  refine Sim.bind (e__law_some_book s) ?_
  rintro r3 _ rfl
  and_intros
  refine Sim.same fun p4 => ?_
  refine Sim.app ?_
  and_intros
  refine Sim.same fun _ => ?_
  refine Sim.bind (e__law_more r3.2 p4.1 p4.2) ?_
  rintro r5 _ rfl
  and_intros
  refine Sim.bind (e__law_asks p4.1 r5.1) ?_
  rintro t6 _ rfl
  and_intros
  refine Sim.same fun b7 => ?_
  refine Sim.ite ?_ ?_
  · refine Sim.app ?_
    and_intros
    exact fSr rfl
  · refine Sim.app ?_
    and_intros
    exact fSn ⟨_, _, _, rfl⟩
def m_law (script : D) : Res (D) :=
  (m__law_feed script).bind fun feed1 =>
  (opt (rngOf [.int 2])).bind fun l2 =>
  (forB l2 (feed1) m_law_b1).bind fun r => aftF r fun s8 =>
  (m_Book (.obj "Book" []) (.str [43, 45]) (.lst [.tup [.tup [.int 2, .int 1], .str [114, 101, 109, 111, 118, 101]], .tup [.tup [.int 1, .int 1], .str [114, 101, 109, 111, 118, 101]], .tup [.tup [.int 1, .int 1], .str [114, 101, 109, 111, 118, 101]], .tup [.tup [.int 0, .int 2], .str [107, 101, 101, 112]]])).bind fun r9 =>
  (mkR r9.1 [r9.2]).bind fun t10 =>
  (m_least_book t10).bind fun t11 =>
  (fldR ["Book"] "rulings" t11).bind fun t12 =>
  (opt (fList [t12])).bind fun t13 =>
  (opt (dEq t13 (.lst [.tup [.tup [.int 1, .int 1], .str [114, 101, 109, 111, 118, 101]], .tup [.tup [.int 0, .int 2], .str [107, 101, 101, 112]]]))).bind fun t14 =>
  .ok t14
theorem e_law (script : D) : Sim (m_law script) (v_law [script]) (fun r q => q = (r, [])) := by
  unfold m_law v_law
  refine (sim_fn (RR := RR0) (os := fun v : D => (v, ([] : List D))) (E := [some script, none, none, none, none]) rfl rr0 ?_)
  unfold b_law
  and_intros
  refine Sim.bind (e__law_feed script) ?_
  rintro feed1 _ rfl
  and_intros
  refine Sim.app ?_
  and_intros
  refine Sim.same fun l2 => ?_
  refine Sim.bind (sim_forB (P := P_law_1 (some script)) (RR := RR0) (fun d s ρ h => ?_) ?_) ?_
  · obtain ⟨u2, u3, u4, rfl⟩ := h; exact e_law_b1 ..
  · exact ⟨_, _, _, rfl⟩
  intro r fl hfl
  refine sim_aftF hfl (fun s8 ρ h => ?_)
  obtain ⟨u2, u3, u4, rfl⟩ := h
  and_intros
  refine Sim.app ?_
  and_intros
  refine Sim.bind (e_Book (.obj "Book" []) (.str [43, 45]) (.lst [.tup [.tup [.int 2, .int 1], .str [114, 101, 109, 111, 118, 101]], .tup [.tup [.int 1, .int 1], .str [114, 101, 109, 111, 118, 101]], .tup [.tup [.int 1, .int 1], .str [114, 101, 109, 111, 118, 101]], .tup [.tup [.int 0, .int 2], .str [107, 101, 101, 112]]])) ?_
  rintro r9 _ rfl
  and_intros
  refine Sim.same fun t10 => ?_
  refine Sim.bind (e_least_book t10) ?_
  rintro t11 _ rfl
  and_intros
  refine Sim.same fun t12 => ?_
  refine Sim.same fun t13 => ?_
  refine Sim.same fun t14 => ?_
  exact fR rfl
end
end G_k06

set_option Elab.async false
set_option linter.all false
set_option maxRecDepth 100000
set_option maxHeartbeats 2000000
/-! VV: cases of a house, in plain terms. -/
namespace VL
open PySem PySem.Spec PyProof.Rows L2 VL.Emb
abbrev Cse := List Int
theorem dT_emb (k : Cse) : dT k = emb (⟨k⟩ : Tup Int) := rfl
def uT (k : Cse) : Tup Int := ⟨k⟩
theorem dT_eq : (dT : Cse → D) = fun k => emb (uT k) := rfl
theorem tup_eq {a b : Cse} : (uT a = uT b) ↔ a = b := ⟨fun h => by cases h; rfl, fun h => by rw [h]⟩
instance : DecidableEq (Tup Int) := fun a b => if h : a.l = b.l then isTrue (by cases a; cases b; simp at h; rw [h]) else isFalse fun e => h (by rw [e])
theorem tok (k : Cse) : EmbEq.ok (uT k) := fun _ _ => trivial
theorem dEq_dT {a b : Cse} : dEq (dT a) (dT b) = some (.bl (decide (a = b))) := by
  have := dEq_emb (a := uT a) (b := uT b) (by decide) (tok a) (tok b)
  simp only [tup_eq] at this
  exact this
theorem dNe_dT {a b : Cse} : dNe (dT a) (dT b) = some (.bl (!decide (a = b))) := by
  have := dNe_emb (a := uT a) (b := uT b) (by decide) (tok a) (tok b)
  simp only [tup_eq] at this
  exact this
theorem map_dT (l : List Cse) : l.map dT = (l.map uT).map emb := by rw [List.map_map]; rfl
theorem mem_uT {k : Cse} {l : List Cse} : uT k ∈ l.map uT ↔ k ∈ l := by
  rw [List.mem_map]
  exact ⟨fun ⟨x, hx, e⟩ => by rw [← tup_eq.mp e]; exact hx, fun h => ⟨k, h, rfl⟩⟩
theorem map_uT_inj {a b : List Cse} : a.map uT = b.map uT ↔ a = b := by
  constructor
  · intro h
    have := congrArg (List.map Tup.l) h
    rw [List.map_map, List.map_map, show (Tup.l ∘ uT) = id from rfl, List.map_id, List.map_id] at this
    exact this
  · intro h; rw [h]
theorem dIn_dT {k : Cse} {l : List Cse} : dIn (dT k) (.lst (l.map dT)) = some (.bl (decide (k ∈ l))) := by
  have := dIn_emb (x := uT k) (l := l.map uT) (by decide) (tok k) fun y hy => by obtain ⟨z, _, rfl⟩ := List.mem_map.mp hy; exact tok z
  simp only [mem_uT] at this
  rw [map_dT]; exact this
theorem dNotIn_dT {k : Cse} {l : List Cse} : dNotIn (dT k) (.lst (l.map dT)) = some (.bl (!decide (k ∈ l))) := by
  have := dNotIn_emb (x := uT k) (l := l.map uT) (by decide) (tok k) fun y hy => by obtain ⟨z, _, rfl⟩ := List.mem_map.mp hy; exact tok z
  simp only [mem_uT] at this
  rw [map_dT]; exact this
theorem dNe_dTs {a b : List Cse} : dNe (.lst (a.map dT)) (.lst (b.map dT)) = some (.bl (!decide (a = b))) := by
  have h : ∀ l : List Cse, EmbEq.ok (l.map uT) := fun l y hy => by obtain ⟨z, _, rfl⟩ := List.mem_map.mp hy; exact tok z
  have := dNe_emb (a := a.map uT) (b := b.map uT) (by decide) (h a) (h b)
  simp only [map_uT_inj] at this
  rw [map_dT, map_dT]; exact this
theorem dEq_dTs {a b : List Cse} : dEq (.lst (a.map dT)) (.lst (b.map dT)) = some (.bl (decide (a = b))) := by
  have h : ∀ l : List Cse, EmbEq.ok (l.map uT) := fun l y hy => by obtain ⟨z, _, rfl⟩ := List.mem_map.mp hy; exact tok z
  have := dEq_emb (a := a.map uT) (b := b.map uT) (by decide) (h a) (h b)
  simp only [map_uT_inj] at this
  rw [map_dT, map_dT]; exact this
theorem app_dT {a : List Cse} {k : Cse} (h : a.length < 16777216) : mAppend (a.map dT) [dT k] = some ((a ++ [k]).map dT, .non) := by
  have := mAppend_emb (a := a.map uT) (x := uT k) (d := dT k) rfl (by simpa using h)
  rw [map_dT, this, map_dT]; simp
/-! order -/
theorem lt_ints : ∀ a b : Cse, PyProof.Rows.lexLt itemOrd (PySem.W.keyToksAll (a.map PyData.int)) (PySem.W.keyToksAll (b.map PyData.int)) = ltL a b := by
  have al : ∀ x y : Int, PySem.W.alike (.int x) (.int y) = true := fun x y => by simp [PySem.W.alike]
  intro a
  induction a with
  | nil =>
    intro b
    cases b with
    | nil => exact lex_irrefl _
    | cons y b =>
      simp [ltL, PySem.W.keyToksAll, PyProof.Rows.lexLt]
      exact .inl rfl
  | cons x a ih =>
    intro b
    cases b with
    | nil =>
      simp [ltL, PySem.W.keyToksAll, PyProof.Rows.lexLt]
      exact ⟨rfl, fun h => absurd h (by decide)⟩
    | cons y b =>
      rw [List.map_cons, List.map_cons, PySem.W.dataLt_cons (al _ _), ih, PySem.W.dataLt_int]
      simp only [PyData.eqv, beq_iff_eq, ltL]
      by_cases h : x = y
      · subst h; simp
      · simp [h]
theorem pyds_ints (k : Cse) : pyds (k.map D.int) = k.map PyData.int := by
  rw [pyds_map, List.map_map]; rfl
theorem leD_dT {a b : Cse} : leD (dT a) (dT b) = !ltL b a := by
  show (!PySem.W.dataLt (pyd (dT b)) (pyd (dT a))) = _
  rw [dT, dT, pyd, pyd, pyds_ints, pyds_ints, PySem.W.dataLt_tuple, lt_ints]
theorem sorted_dT {l : List Cse} (hn : ∀ k ∈ l, k ≠ []) : fSortedA [.lst (l.map dT)] = some (.lst ((l.mergeSort fun a b => !ltL b a).map dT)) := by
  have al : ∀ x y : Int, PySem.W.alike (.int x) (.int y) = true := fun x y => by simp [PySem.W.alike]
  have ala : ∀ a b : Cse, PySem.W.alikeAll (a.map PyData.int) (b.map PyData.int) = true := by
    intro a
    induction a with
    | nil => intro b; cases b <;> simp [PySem.W.alikeAll]
    | cons x a ih => intro b; cases b with
      | nil => simp [PySem.W.alikeAll]
      | cons y b => simp only [List.map_cons, PySem.W.alikeAll, al, ih, Bool.and_self]
  have s := sortedA_tup (l := l.map dT) (by
    rw [List.all_map, List.all_eq_true]
    intro k hk
    cases k with
    | nil => exact absurd rfl (hn _ hk)
    | cons x k => rfl) (by
    rw [map_dT]
    exact goodDs_of (by decide) fun y hy => by obtain ⟨z, _, rfl⟩ := List.mem_map.mp hy; exact tok z) (by
    unfold alikeD
    rw [List.all_map, List.all_eq_true]
    intro x _
    show ((l.map dT).all fun b => _) = true
    rw [List.all_map, List.all_eq_true]
    intro y _
    show PySem.W.alike (pyd (dT x)) (pyd (dT y)) = true
    rw [dT, dT, pyd, pyd, pyds_ints, pyds_ints, PySem.W.alike]
    exact ala x y)
  rw [s, PySem.W.sort_maps (r := fun a b => !ltL b a) (s := leD) dT (fun _ _ _ _ => leD_dT.symm)]
/-- sorting gives the one ascending list of the same members -/
theorem sort_eq {l X : List Cse} (hn : ∀ k ∈ l, k ≠ []) (nd : l.Nodup) (hp : IncL X) (hm : ∀ x, x ∈ l ↔ x ∈ X) : fSortedA [.lst (l.map dT)] = some (.lst (X.map dT)) := by
  rw [sorted_dT hn, ord_sort (lt := ltL) ltL_tot ltL_irr ltL_tr nd hp hm]
/-! cases -/
structure CaseOk (n : Nat) (k : Cse) : Prop where
  l : k.length = n
  r : ∀ x ∈ k, 0 ≤ x ∧ x < 4
theorem sortSet_dT {n : Nat} {ks : List Cse} (n1 : 1 ≤ n) (hl : ks.length < 64) (h : ∀ k ∈ ks, CaseOk n k) : fSortSet [.lst (ks.map dT)] = some (.lst ((sortT ks).map dT)) := by
  have ok : okK ks = true := by
    unfold okK
    rw [Bool.and_eq_true, Bool.and_eq_true, List.all_eq_true]
    have hd : ks ≠ [] → dOf ks = n := fun ne => by
      cases ks with
      | nil => exact absurd rfl ne
      | cons k r => exact (h k List.mem_cons_self).l
    refine ⟨decide_eq_true hl, decide_eq_true ?_, fun k hk => ?_⟩
    · by_cases e : ks = []
      · rw [e]; decide
      · rw [hd e]; exact n1
    · have hk2 := h k hk
      rw [Bool.and_eq_true, List.all_eq_true]
      refine ⟨decide_eq_true (by rw [hk2.l, hd (fun e => by rw [e] at hk; cases hk)]), fun x hx => decide_eq_true ?_⟩
      have := hk2.r x hx
      omega
  unfold fSortSet
  simp only [tIs_map, ok, if_true]
/-- one sign -/
def gr (s : Nat) (a b : Int) : Bool := !(s == 43 && decide (a < b)) && !(s == 45 && decide (b < a))
def geB : List Nat → Cse → Cse → Bool
  | s :: S, a :: c, b :: d => gr s a b && geB S c d
  | _, _, _ => true
theorem zip_chk {f : D → Unit → Res (Stp Unit D)} (hf : ∀ s a b, f (.tup [.str [s], .int a, .int b]) () = .ok (if (!gr s a b) = true then .ret (.bl false) else .next ())) : ∀ (S : List Nat) (c d : Cse), forB (zipS S (c.map D.int) (d.map D.int)) () f = .ok (if geB S c d = true then .next () else .ret (.bl false))
  | s :: S, a :: c, b :: d => by
    simp only [List.map_cons, zipS, forB_cons, hf, Res.bind_ok, geB]
    rcases Bool.eq_false_or_eq_true (gr s a b) with e | e
    · simp only [e, Bool.not_true, Bool.false_eq_true, if_false, Bool.true_and]; exact zip_chk hf S c d
    · simp only [e, Bool.not_false, if_true, Bool.false_and, Bool.false_eq_true, if_false]
  | [], _, _ => rfl
  | _ :: _, [], _ => rfl
  | _ :: _, _ :: _, [] => rfl
def geI (S : List Nat) (c d : Cse) (k : Int) : Bool := gr (S.getD k.toNat 0) (c.getD k.toNat 0) (d.getD k.toNat 0)
theorem ups_shift (n : Nat) (i : Int) : ups (i + 1) n = (ups i n).map (· + 1) := by
  induction n generalizing i with
  | zero => rfl
  | succ n ih => rw [ups, ups, List.map_cons, ih]
theorem geI_all : ∀ (S : List Nat) (c d : Cse), c.length = S.length → d.length = S.length → (ups 0 S.length).all (geI S c d) = geB S c d
  | [], _, _, _, _ => by simp [ups, geB]
  | s :: S, [], _, h, _ => by cases h
  | s :: S, _ :: _, [], _, h => by cases h
  | s :: S, a :: c, b :: d, h1, h2 => by
    rw [List.length_cons, ups, List.all_cons, ups_shift, List.all_map, geB, ← geI_all S c d (by simpa using h1) (by simpa using h2)]
    congr 1
    have e : ∀ k ∈ ups 0 S.length, geI (s :: S) (a :: c) (b :: d) (k + 1) = geI S c d k := fun k hk => by
      have hk := (mem_ups.mp hk).1
      unfold geI
      rw [show (k + 1).toNat = k.toNat + 1 by omega]
      rfl
    rw [Bool.eq_iff_iff, List.all_eq_true, List.all_eq_true]
    exact ⟨fun h k hk => by rw [← e k hk]; exact h k hk, fun h k hk => by
      show geI (s :: S) (a :: c) (b :: d) (k + 1) = true
      rw [e k hk]; exact h k hk⟩
/-- all cases, ascending -/
def longer (l : List Cse) : List Cse := l.flatMap fun c => [c ++ [0], c ++ [1], c ++ [2], c ++ [3]]
def allC : Nat → List Cse
  | 0 => [[]]
  | n + 1 => longer (allC n)
theorem mem_longer {l : List Cse} {k : Cse} : k ∈ longer l ↔ ∃ c ∈ l, ∃ g, 0 ≤ g ∧ g < 4 ∧ k = c ++ [g] := by
  unfold longer
  rw [List.mem_flatMap]
  constructor
  · rintro ⟨c, hc, h⟩
    simp only [List.mem_cons, List.not_mem_nil, or_false] at h
    rcases h with rfl | rfl | rfl | rfl
    · exact ⟨c, hc, 0, by omega, by omega, rfl⟩
    · exact ⟨c, hc, 1, by omega, by omega, rfl⟩
    · exact ⟨c, hc, 2, by omega, by omega, rfl⟩
    · exact ⟨c, hc, 3, by omega, by omega, rfl⟩
  · rintro ⟨c, hc, g, g0, g1, rfl⟩
    refine ⟨c, hc, ?_⟩
    have : g = 0 ∨ g = 1 ∨ g = 2 ∨ g = 3 := by omega
    rcases this with rfl | rfl | rfl | rfl <;> simp
theorem mem_allC : ∀ {n : Nat} {k : Cse}, k ∈ allC n ↔ CaseOk n k
  | 0, k => by
    rw [allC, List.mem_singleton]
    exact ⟨fun e => by subst e; exact ⟨rfl, by simp⟩, fun h => List.length_eq_zero_iff.mp h.l⟩
  | n + 1, k => by
    rw [allC, mem_longer]
    constructor
    · rintro ⟨c, hc, g, g0, g1, rfl⟩
      have := mem_allC.mp hc
      exact ⟨by simp [this.l], fun x hx => by
        rcases List.mem_append.mp hx with h | h
        · exact this.r x h
        · rw [List.mem_singleton.mp h]; exact ⟨g0, g1⟩⟩
    · intro h
      have ne : k ≠ [] := fun e => by have := h.l; rw [e] at this; cases this
      refine ⟨k.dropLast, mem_allC.mpr ⟨by rw [List.length_dropLast, h.l]; rfl, fun x hx => h.r x (List.dropLast_subset _ hx)⟩, k.getLast ne, (h.r _ (List.getLast_mem ne)).1, (h.r _ (List.getLast_mem ne)).2, (List.dropLast_concat_getLast ne).symm⟩
theorem ltL_app : ∀ {a b : Cse} {x y : Int}, a.length = b.length → ltL (a ++ [x]) (b ++ [y]) = (ltL a b || (decide (a = b) && decide (x < y)))
  | [], [], x, y, _ => by simp [ltL]
  | [], _ :: _, _, _, h => by cases h
  | _ :: _, [], _, _, h => by cases h
  | a :: r, b :: s, x, y, h => by
    simp only [List.cons_append, ltL]
    rw [ltL_app (by simpa using h)]
    by_cases e : a = b
    · subst e; simp
    · simp [e]
theorem longer_inc {n : Nat} {l : List Cse} (hl : ∀ k ∈ l, k.length = n) (h : IncL l) : IncL (longer l) := by
  unfold longer
  rw [IncL, List.pairwise_flatMap]
  refine ⟨fun c hc => ?_, List.Pairwise.imp_of_mem (fun {a b} ha hb hab x hx y hy => ?_) h⟩
  · simp only [List.pairwise_cons, List.mem_cons, List.not_mem_nil, or_false, forall_eq_or_imp, forall_eq, ltL_app rfl]
    simp [ltL_irr]
  · have e := (hl a ha).trans (hl b hb).symm
    simp only [List.mem_cons, List.not_mem_nil, or_false] at hx hy
    rcases hx with rfl | rfl | rfl | rfl <;> rcases hy with rfl | rfl | rfl | rfl <;> rw [ltL_app e, hab] <;> rfl
theorem allC_inc : ∀ n, IncL (allC n)
  | 0 => by simp [allC]
  | n + 1 => longer_inc (fun k hk => (mem_allC.mp hk).l) (allC_inc n)
theorem longer_len (l : List Cse) : (longer l).length = 4 * l.length := by
  unfold longer
  induction l with
  | nil => rfl
  | cons c l ih => rw [List.flatMap_cons, List.length_append, ih]; simp; omega
theorem allC_len : ∀ n, (allC n).length = 4 ^ n
  | 0 => rfl
  | n + 1 => by rw [allC, longer_len, allC_len n, Nat.pow_succ]; omega
/-! loops that look every item over -/
def allRet (b : Bool) : Stp Unit D := if b = true then .next () else .ret (.bl false)
theorem forB_chk {α : Type} {l : List α} {g : α → D} {f : D → Unit → Res (Stp Unit D)} {c : α → Bool} (H : ∀ x ∈ l, f (g x) () = .ok (if (!c x) = true then .ret (.bl false) else .next ())) : forB (l.map g) () f = .ok (allRet (l.all c)) := by
  rw [forB_find (c := fun x => !c x) (v := fun _ => D.bl false) H]
  rcases find_all (l := l) (c := c) with ⟨x, h1, h2⟩ | ⟨h1, h2⟩
  · rw [h1, h2]; rfl
  · rw [h1, h2]; rfl
theorem aft_all {b : Bool} : (aftF (allRet b) fun _ => (.ok (.bl true) : Res D)) = .ok (.bl b) := by cases b <;> rfl
theorem ixT {c : Cse} {x : Int} (h0 : 0 ≤ x) (h : x < c.length) : dIx (dT c) (.int x) = some (.int (c.getD x.toNat 0)) := by
  rw [dT, dIx_tup, atI_map, atI_pos h0 (by omega), List.getD_eq_getElem?_getD, List.getElem?_eq_getElem (by omega)]; rfl
theorem str1 {a b : Nat} : dEq (.str [a]) (.str [b]) = some (.bl (a == b)) := by
  rw [dEq_str]
  congr 2
  simp [List.cons_beq_cons]
theorem two_ret {α : Type} {p q : Bool} {a b : α} : (if p = true then (.ok a : Res α) else if q = true then .ok a else .ok b) = .ok (if (!(!p && !q)) = true then a else b) := by
  cases p <;> cases q <;> rfl
abbrev cs (l : List Cse) : D := .lst (l.map dT)
theorem forN_cse {α : Type} {g : α → D} {c : α → Bool} {h : α → Cse} {f : D → D → Res D} : ∀ {l : List α} {F : List Cse}, F.length + l.length ≤ 16777216 → (∀ x ∈ l, ∀ F : List Cse, F.length < 16777216 → f (g x) (cs F) = .ok (cs (if c x = true then F ++ [h x] else F))) → forN (l.map g) (cs F) f = .ok (cs (F ++ (l.filter c).map h))
  | [], F, _, _ => by simp
  | x :: l, F, hl, H => by
    simp only [List.length_cons] at hl
    rw [List.map_cons, forN_cons, H x List.mem_cons_self F (by omega), Res.bind_ok]
    by_cases hc : c x = true
    · rw [if_pos hc, forN_cse (by simp; omega) fun y hy => H y (List.mem_cons_of_mem _ hy), List.filter_cons_of_pos hc]; simp
    · rw [if_neg hc, forN_cse (by omega) fun y hy => H y (List.mem_cons_of_mem _ hy), List.filter_cons_of_neg hc]
/-- each once, of those that c takes -/
def pick (c : Cse → Bool) : List Cse → List Cse → List Cse
  | [], F => F
  | k :: L, F => pick c L (if (c k && !decide (k ∈ F)) = true then F ++ [k] else F)
theorem forN_pick {c : Cse → Bool} {f : D → D → Res D} : ∀ {l F : List Cse}, F.length + l.length ≤ 16777216 → (∀ x ∈ l, ∀ F : List Cse, F.length < 16777216 → f (dT x) (cs F) = .ok (cs (if (c x && !decide (x ∈ F)) = true then F ++ [x] else F))) → forN (l.map dT) (cs F) f = .ok (cs (pick c l F))
  | [], F, _, _ => rfl
  | x :: l, F, hl, H => by
    simp only [List.length_cons] at hl
    rw [List.map_cons, forN_cons, H x List.mem_cons_self F (by omega), Res.bind_ok, pick]
    exact forN_pick (by split <;> (try rw [List.length_append, List.length_singleton]) <;> omega) fun y hy => H y (List.mem_cons_of_mem _ hy)
theorem pick_ok {c : Cse → Bool} : ∀ {L F : List Cse}, (L.Pairwise fun a b => (!ltL b a) = true) → IncL F → (∀ f ∈ F, ∀ k ∈ L, (!ltL k f) = true) → IncL (pick c L F) ∧ ∀ x, x ∈ pick c L F ↔ x ∈ F ∨ (x ∈ L ∧ c x = true)
  | [], F, _, hF, _ => ⟨hF, fun x => by simp [pick]⟩
  | k :: L, F, hL, hF, hb => by
    rw [List.pairwise_cons] at hL
    rw [pick]
    by_cases h : (c k && !decide (k ∈ F)) = true
    · rw [if_pos h]
      rw [Bool.and_eq_true, Bool.not_eq_true', decide_eq_false_iff_not] at h
      obtain ⟨a, b⟩ := pick_ok (c := c) (F := F ++ [k]) hL.2 (by
        rw [IncL, List.pairwise_append]
        refine ⟨hF, by simp, fun f hf y hy => ?_⟩
        rw [List.mem_singleton.mp hy]
        have ne : f ≠ k := fun e => h.2 (by rw [← e]; exact hf)
        have := hb f hf k List.mem_cons_self
        rw [ltL_tot _ _ ne]; exact this) fun f hf y hy => by
          rcases List.mem_append.mp hf with q | q
          · exact hb f q y (List.mem_cons_of_mem _ hy)
          · rw [List.mem_singleton.mp q]; exact hL.1 y hy
      refine ⟨a, fun x => (b x).trans ?_⟩
      rw [List.mem_append, List.mem_singleton, List.mem_cons]
      constructor
      · rintro ((q | q) | q)
        · exact .inl q
        · rw [q]; exact .inr ⟨.inl rfl, h.1⟩
        · exact .inr ⟨.inr q.1, q.2⟩
      · rintro (q | ⟨q | q, r⟩)
        · exact .inl (.inl q)
        · exact .inl (.inr q)
        · exact .inr ⟨q, r⟩
    · rw [if_neg h]
      obtain ⟨a, b⟩ := pick_ok (c := c) (F := F) hL.2 hF fun f hf y hy => hb f hf y (List.mem_cons_of_mem _ hy)
      refine ⟨a, fun x => (b x).trans ?_⟩
      rw [List.mem_cons]
      constructor
      · rintro (q | q)
        · exact .inl q
        · exact .inr ⟨.inr q.1, q.2⟩
      · rintro (q | ⟨q | q, r⟩)
        · exact .inl q
        · subst q
          by_cases hx : x ∈ F
          · exact .inl hx
          · exact absurd (by rw [r]; simp [hx]) h
        · exact .inr ⟨q, r⟩
theorem pick_sort {c : Cse → Bool} {l X : List Cse} (hX : IncL X) (hm : ∀ x, x ∈ X ↔ x ∈ l ∧ c x = true) : pick c (l.mergeSort fun a b => !ltL b a) [] = X := by
  obtain ⟨a, b⟩ := pick_ok (c := c) (L := l.mergeSort fun a b => !ltL b a) (F := []) (List.pairwise_mergeSort leL_tr leL_tot _) (by simp) (by simp)
  refine incL_uniq a hX fun x => (b x).trans ?_
  rw [hm, (List.mergeSort_perm _ _).mem_iff]; simp
theorem dd_len : ∀ {l : List Cse}, (dd l).length ≤ l.length
  | [] => Nat.le_refl _
  | k :: r => by
    unfold dd
    have := dd_len (l := r)
    split <;> simp <;> omega
/-! the least grave that is at least as grave as both, and the gravest below -/
def mx (a b : Int) : Int := if b > a then b else a
def mn (a b : Int) : Int := if b < a then b else a
def joinC : List Nat → Cse → Cse → Cse
  | s :: S, a :: c, b :: d => (if (s == 43) = true then mx a b else mn a b) :: joinC S c d
  | _, _, _ => []
def meetC : List Nat → Cse → Cse → Cse
  | s :: S, a :: c, b :: d => (if (s == 43) = true then mn a b else mx a b) :: meetC S c d
  | _, _, _ => []
theorem joinC_ok : ∀ {n : Nat} {S : List Nat} {c d : Cse}, S.length = n → CaseOk n c → CaseOk n d → CaseOk n (joinC S c d)
  | 0, [], c, d, _, _, _ => ⟨rfl, fun x h => by cases h⟩
  | n + 1, s :: S, [], d, _, h, _ => by cases h.l
  | n + 1, s :: S, a :: c, [], _, _, h => by cases h.l
  | n + 1, s :: S, a :: c, b :: d, h, h1, h2 => by
    have i := joinC_ok (n := n) (S := S) (c := c) (d := d) (by simpa using h) ⟨by simpa using h1.l, fun x hx => h1.r x (List.mem_cons_of_mem _ hx)⟩ ⟨by simpa using h2.l, fun x hx => h2.r x (List.mem_cons_of_mem _ hx)⟩
    have a1 := h1.r a List.mem_cons_self
    have b1 := h2.r b List.mem_cons_self
    refine ⟨by rw [joinC, List.length_cons, i.l], fun x hx => ?_⟩
    rw [joinC] at hx
    rcases List.mem_cons.mp hx with rfl | hx
    · unfold mx mn; split <;> split <;> assumption
    · exact i.r x hx
theorem meetC_ok : ∀ {n : Nat} {S : List Nat} {c d : Cse}, S.length = n → CaseOk n c → CaseOk n d → CaseOk n (meetC S c d)
  | 0, [], c, d, _, _, _ => ⟨rfl, fun x h => by cases h⟩
  | n + 1, s :: S, [], d, _, h, _ => by cases h.l
  | n + 1, s :: S, a :: c, [], _, _, h => by cases h.l
  | n + 1, s :: S, a :: c, b :: d, h, h1, h2 => by
    have i := meetC_ok (n := n) (S := S) (c := c) (d := d) (by simpa using h) ⟨by simpa using h1.l, fun x hx => h1.r x (List.mem_cons_of_mem _ hx)⟩ ⟨by simpa using h2.l, fun x hx => h2.r x (List.mem_cons_of_mem _ hx)⟩
    have a1 := h1.r a List.mem_cons_self
    have b1 := h2.r b List.mem_cons_self
    refine ⟨by rw [meetC, List.length_cons, i.l], fun x hx => ?_⟩
    rw [meetC] at hx
    rcases List.mem_cons.mp hx with rfl | hx
    · unfold mx mn; split <;> split <;> assumption
    · exact i.r x hx
theorem gr_join {s : Nat} {x a b : Int} (hs : s = 43 ∨ s = 45) : gr s x (if (s == 43) = true then mx a b else mn a b) = (gr s x a && gr s x b) := by
  rw [Bool.eq_iff_iff]
  rcases hs with rfl | rfl
  · simp [gr, mx]; split <;> omega
  · simp [gr, mn]; split <;> omega
theorem gr_meet {s : Nat} {x a b : Int} (hs : s = 43 ∨ s = 45) : gr s (if (s == 43) = true then mn a b else mx a b) x = (gr s a x && gr s b x) := by
  rw [Bool.eq_iff_iff]
  rcases hs with rfl | rfl
  · simp [gr, mn]; split <;> omega
  · simp [gr, mx]; split <;> omega
theorem ge_join : ∀ {S : List Nat} {x c d : Cse}, (∀ s ∈ S, s = 43 ∨ s = 45) → x.length = S.length → c.length = S.length → d.length = S.length → geB S x (joinC S c d) = (geB S x c && geB S x d)
  | [], _, _, _, _, _, _, _ => rfl
  | s :: S, [], _, _, _, h, _, _ => by cases h
  | s :: S, _ :: _, [], _, _, _, h, _ => by cases h
  | s :: S, _ :: _, _ :: _, [], _, _, _, h => by cases h
  | s :: S, x :: xs, a :: c, b :: d, hs, h1, h2, h3 => by
    rw [joinC, geB, geB, geB, gr_join (hs s List.mem_cons_self), ge_join (fun y hy => hs y (List.mem_cons_of_mem _ hy)) (by simpa using h1) (by simpa using h2) (by simpa using h3)]
    cases gr s x a <;> cases gr s x b <;> cases geB S xs c <;> cases geB S xs d <;> rfl
theorem ge_meet : ∀ {S : List Nat} {x c d : Cse}, (∀ s ∈ S, s = 43 ∨ s = 45) → x.length = S.length → c.length = S.length → d.length = S.length → geB S (meetC S c d) x = (geB S c x && geB S d x)
  | [], _, _, _, _, _, _, _ => rfl
  | s :: S, [], _, _, _, h, _, _ => by cases h
  | s :: S, _ :: _, [], _, _, _, h, _ => by cases h
  | s :: S, _ :: _, _ :: _, [], _, _, _, h => by cases h
  | s :: S, x :: xs, a :: c, b :: d, hs, h1, h2, h3 => by
    rw [meetC, geB, geB, geB, gr_meet (hs s List.mem_cons_self), ge_meet (fun y hy => hs y (List.mem_cons_of_mem _ hy)) (by simpa using h1) (by simpa using h2) (by simpa using h3)]
    cases gr s a x <;> cases gr s b x <;> cases geB S c xs <;> cases geB S d xs <;> rfl
/-- a loop over the three that lists one number for each -/
theorem zip_ints {h : Nat → Int → Int → Int} {f : D → D → Res D} (hf : ∀ s a b (F : List Int), F.length < 16777216 → f (.tup [.str [s], .int a, .int b]) (.lst (F.map D.int)) = .ok (.lst ((F ++ [h s a b]).map D.int))) {J : List Nat → Cse → Cse → Cse} (j0 : ∀ c d, J [] c d = []) (j1 : ∀ S d, J S [] d = []) (j2 : ∀ S c, J S c [] = []) (j3 : ∀ s S a c b d, J (s :: S) (a :: c) (b :: d) = h s a b :: J S c d) : ∀ (S : List Nat) (c d : Cse) (F : List Int), F.length + S.length ≤ 16777216 → forN (zipS S (c.map D.int) (d.map D.int)) (.lst (F.map D.int)) f = .ok (.lst ((F ++ J S c d).map D.int))
  | s :: S, a :: c, b :: d, F, hl => by
    simp only [List.length_cons] at hl
    simp only [List.map_cons, zipS, forN_cons]
    rw [hf s a b F (by omega), Res.bind_ok, zip_ints hf j0 j1 j2 j3 S c d _ (by simp; omega), j3, List.append_assoc]; rfl
  | [], _, _, F, _ => by rw [j0, List.append_nil]; rfl
  | _ :: _, [], _, F, _ => by rw [j1, List.append_nil]; rfl
  | _ :: _, _ :: _, [], F, _ => by rw [j2, List.append_nil]; rfl
/-! sums of 0 and 1 -/
theorem sum_nn {α : Type} {f : α → Int} : ∀ {l : List α}, (∀ x ∈ l, 0 ≤ f x) → 0 ≤ (l.map f).sum
  | [], _ => by simp
  | x :: l, h => by
    have := sum_nn fun y hy => h y (List.mem_cons_of_mem x hy)
    have := h x List.mem_cons_self
    simp only [List.map_cons, List.sum_cons]; omega
theorem sum_0 {α : Type} {f : α → Int} : ∀ {l : List α}, (∀ x ∈ l, 0 ≤ f x) → ((l.map f).sum = 0 ↔ ∀ x ∈ l, f x = 0)
  | [], _ => by simp
  | x :: l, h => by
    have a := sum_nn fun y hy => h y (List.mem_cons_of_mem x hy)
    have b := h x List.mem_cons_self
    have i := sum_0 fun y hy => h y (List.mem_cons_of_mem x hy)
    simp only [List.map_cons, List.sum_cons, List.mem_cons, forall_eq_or_imp, ← i]
    omega
theorem sum_1 {α : Type} {f : α → Int} : ∀ {l : List α}, l.Nodup → (∀ x ∈ l, 0 ≤ f x) → ((l.map f).sum = 1 ↔ ∃ i ∈ l, f i = 1 ∧ ∀ j ∈ l, j ≠ i → f j = 0)
  | [], _, _ => by simp
  | x :: l, nd, h => by
    rw [List.nodup_cons] at nd
    have h' : ∀ y ∈ l, 0 ≤ f y := fun y hy => h y (List.mem_cons_of_mem x hy)
    have a := sum_nn h'
    have b := h x List.mem_cons_self
    have i := sum_1 nd.2 h'
    have z := sum_0 h'
    simp only [List.map_cons, List.sum_cons]
    constructor
    · intro e
      by_cases q : f x = 0
      · obtain ⟨k, hk, k1, k2⟩ := i.mp (by omega)
        refine ⟨k, List.mem_cons_of_mem _ hk, k1, fun j hj ne => ?_⟩
        rcases List.mem_cons.mp hj with rfl | hj
        · exact q
        · exact k2 j hj ne
      · have z' := z.mp (by omega)
        refine ⟨x, List.mem_cons_self, ?_, fun j hj ne => ?_⟩
        · have := z.mpr z'; omega
        · rcases List.mem_cons.mp hj with rfl | hj
          · exact absurd rfl ne
          · exact z' j hj
    · rintro ⟨k, hk, k1, k2⟩
      rcases List.mem_cons.mp hk with rfl | hk
      · have := z.mpr fun j hj => k2 j (List.mem_cons_of_mem _ hj) fun e => nd.1 (by rw [← e]; exact hj)
        omega
      · have f0 : f x = 0 := k2 x List.mem_cons_self fun e => nd.1 (by rw [e]; exact hk)
        have := i.mpr ⟨k, hk, k1, fun j hj => k2 j (List.mem_cons_of_mem _ hj)⟩
        omega
end VL

set_option Elab.async false
set_option linter.all false
set_option maxRecDepth 100000
set_option maxHeartbeats 2000000
/-! VX: books of rulings, in plain terms. -/
namespace VL
open PySem PySem.Spec PyProof.Rows L2 VL.Emb
abbrev tR : List Nat := [114, 101, 109, 111, 118, 101]
abbrev tK : List Nat := [107, 101, 101, 112]
abbrev Rul := Cse × Bool
def ansT (b : Bool) : D := .str (cond b tR tK)
def rT (r : Rul) : D := .tup [dT r.1, ansT r.2]
def bookD (S : List Nat) (R : List Rul) : D := .obj "Book" [("sides", .str S), ("rulings", .tup (R.map rT))]
theorem fld_sides {S : List Nat} {R : List Rul} : fldR ["Book"] "sides" (bookD S R) = .ok (.str S) := by
  show (if (["Book"] : List String).contains "Book" = true then opt (lookF "sides" [("sides", .str S), ("rulings", .tup (R.map rT))]) else .bad) = _
  rw [if_pos (by decide), lookF, if_pos (show (Str.ofString "sides" == Str.ofString "sides") = true by decide)]; rfl
theorem fld_rul {S : List Nat} {R : List Rul} : fldR ["Book"] "rulings" (bookD S R) = .ok (.tup (R.map rT)) := by
  show (if (["Book"] : List String).contains "Book" = true then opt (lookF "rulings" [("sides", .str S), ("rulings", .tup (R.map rT))]) else .bad) = _
  rw [if_pos (by decide), lookF, if_neg (show ¬ (Str.ofString "sides" == Str.ofString "rulings") = true by decide), lookF, if_pos (show (Str.ofString "rulings" == Str.ofString "rulings") = true by decide)]; rfl
theorem ans_r {b : Bool} : dEq (ansT b) (.str tR) = some (.bl b) := by
  cases b <;> simp [ansT]
theorem ans_k {b : Bool} : dEq (ansT b) (.str tK) = some (.bl (!b)) := by
  cases b <;> simp [ansT]
theorem ansN_r {b : Bool} : dNe (ansT b) (.str tR) = some (.bl (!b)) := by
  cases b <;> simp [ansT]
theorem ansN_k {b : Bool} : dNe (ansT b) (.str tK) = some (.bl b) := by
  cases b <;> simp [ansT]
def rD : Rul := ([], false)
theorem ixRt {R : List Rul} {i : Int} (h0 : 0 ≤ i) (h : i < R.length) : dIx (.tup (R.map rT)) (.int i) = some (rT (R.getD i.toNat rD)) := by
  rw [dIx_tup, atI_map, atI_pos h0 (by omega), List.getD_eq_getElem?_getD, List.getElem?_eq_getElem (by omega)]; rfl
theorem ixRl {R : List Rul} {i : Int} (h0 : 0 ≤ i) (h : i < R.length) : dIx (.lst (R.map rT)) (.int i) = some (rT (R.getD i.toNat rD)) := by
  rw [dIx_lst, atI_map, atI_pos h0 (by omega), List.getD_eq_getElem?_getD, List.getElem?_eq_getElem (by omega)]; rfl
theorem rT_0 {r : Rul} : dIx (rT r) (.int 0) = some (dT r.1) := rfl
theorem rT_1 {r : Rul} : dIx (rT r) (.int 1) = some (ansT r.2) := rfl
theorem rT_u {r : Rul} : un2 (rT r) = .ok (dT r.1, ansT r.2) := rfl
theorem getR {R : List Rul} {i : Nat} (h : i < R.length) : R.getD i rD ∈ R := by
  rw [List.getD_eq_getElem?_getD, List.getElem?_eq_getElem h]; exact List.getElem_mem _
/-- a house: n signs -/
structure Hs (n : Nat) (S : List Nat) : Prop where
  n1 : 1 ≤ n
  n5 : n ≤ 5
  l : S.length = n
  c : ∀ x ∈ S, x = 43 ∨ x = 45
structure Rs (n : Nat) (R : List Rul) : Prop where
  c : ∀ r ∈ R, CaseOk n r.1
  l : R.length ≤ 30
/-- ruling i removes, ruling j keeps, and they cross -/
def crB (S : List Nat) (R : List Rul) (i j : Int) : Bool := (R.getD i.toNat rD).2 && (!(R.getD j.toNat rD).2 && geB S (R.getD j.toNat rD).1 (R.getD i.toNat rD).1)
def rmB (S : List Nat) (ks : List Cse) (c : Cse) : Bool := ks.any fun k => geB S c k
def agB (S : List Nat) (R : List Rul) (ks : List Cse) : Bool := R.all fun r => rmB S ks r.1 == r.2
/-! data to be judged -/
def isI : D → Bool
  | .int _ => true
  | _ => false
def tyB (d : D) : Bool := (tyD d).isSome
def ixB (m : Nat) : D → Bool
  | .int i => decide (0 ≤ i) && decide (i < (m : Int))
  | _ => false
def okx : D → Bool
  | .int i => decide (0 ≤ i) && decide (i ≤ 3)
  | _ => false
def caseB (n : Nat) : D → Bool
  | .tup l => decide (l.length = n) && l.all okx
  | _ => false
/-- what may stand in a list of cases -/
def GD : D → Prop
  | .tup l => l.length ≤ 100 ∧ ∀ x ∈ l, tyB x = true
  | d => tyB d = true
theorem caseB_ok {n : Nat} {d : D} (h : caseB n d = true) : ∃ k, d = dT k ∧ CaseOk n k := by
  cases d <;> first | (cases h; done) | skip
  rename_i l
  simp only [caseB, Bool.and_eq_true, decide_eq_true_eq, List.all_eq_true] at h
  have : ∀ l : List D, (∀ x ∈ l, okx x = true) → ∃ k : Cse, l = k.map D.int ∧ ∀ x ∈ k, 0 ≤ x ∧ x < 4 := by
    intro l
    induction l with
    | nil => intro _; exact ⟨[], rfl, by simp⟩
    | cons x l ih =>
      intro hl
      obtain ⟨k, rfl, hk⟩ := ih fun y hy => hl y (List.mem_cons_of_mem _ hy)
      have hx := hl x List.mem_cons_self
      cases x <;> first | (cases hx; done) | skip
      rename_i i
      simp only [okx, Bool.and_eq_true, decide_eq_true_eq] at hx
      exact ⟨i :: k, rfl, fun y hy => by
        rcases List.mem_cons.mp hy with rfl | hy
        · omega
        · exact hk y hy⟩
  obtain ⟨k, rfl, hk⟩ := this l h.2
  exact ⟨k, rfl, ⟨by simpa using h.1, hk⟩⟩
theorem caseB_dT {n : Nat} {k : Cse} (h : CaseOk n k) : caseB n (dT k) = true := by
  simp only [dT, caseB, Bool.and_eq_true, decide_eq_true_eq, List.all_eq_true, List.length_map]
  refine ⟨h.l, fun x hx => ?_⟩
  obtain ⟨i, hi, rfl⟩ := List.mem_map.mp hx
  have := h.r i hi
  simp [okx]; omega
theorem casesB_ok {n : Nat} : ∀ {l : List D}, l.all (caseB n) = true → ∃ ks : List Cse, l = ks.map dT ∧ ∀ k ∈ ks, CaseOk n k
  | [], _ => ⟨[], rfl, by simp⟩
  | d :: l, h => by
    rw [List.all_cons, Bool.and_eq_true] at h
    obtain ⟨k, rfl, hk⟩ := caseB_ok h.1
    obtain ⟨ks, rfl, hks⟩ := casesB_ok h.2
    exact ⟨k :: ks, rfl, fun y hy => by
      rcases List.mem_cons.mp hy with rfl | hy
      · exact hk
      · exact hks y hy⟩
/-! a loop that ends at the first find -/
def retO {α : Type} (e : α → D) : Option α → Stp Unit D
  | some v => .ret (e v)
  | none => .next ()
theorem forB_some {α β : Type} {g : α → D} {e : β → D} {h : α → Option β} {f : D → Unit → Res (Stp Unit D)} : ∀ {l : List α}, (∀ x ∈ l, f (g x) () = .ok (retO e (h x))) → forB (l.map g) () f = .ok (retO e (l.findSome? h))
  | [], _ => rfl
  | x :: l, H => by
    rw [List.map_cons, forB_cons, H x List.mem_cons_self, Res.bind_ok, List.findSome?_cons]
    cases hx : h x with
    | some v => rfl
    | none => exact forB_some fun y hy => H y (List.mem_cons_of_mem _ hy)
def pD (p : Int × Int) : D := .tup [.int p.1, .int p.2]
def oD {α : Type} (e : α → D) : Option α → D
  | some v => e v
  | none => .non
/-- the least crossing pair -/
def fcr (S : List Nat) (R : List Rul) (i : Int) : Option (Int × Int) := ((ups 0 R.length).find? fun j => crB S R i j).map fun j => (i, j)
def fc (S : List Nat) (R : List Rul) : Option (Int × Int) := (ups 0 R.length).findSome? (fcr S R)
theorem find_filter {α : Type} {c p : α → Bool} (h : ∀ x, c x = true → p x = true) : ∀ {l : List α}, (l.filter p).find? c = l.find? c
  | [] => rfl
  | x :: l => by
    by_cases hp : p x = true
    · rw [List.filter_cons_of_pos hp, List.find?_cons, List.find?_cons, find_filter h]
    · have hc : c x = false := Bool.eq_false_iff.mpr fun z => hp (h x z)
      rw [List.filter_cons_of_neg hp, List.find?_cons, hc, find_filter h]
theorem some_filter {α β : Type} {c : α → Option β} {p : α → Bool} (h : ∀ x, c x ≠ none → p x = true) : ∀ {l : List α}, (l.filter p).findSome? c = l.findSome? c
  | [] => rfl
  | x :: l => by
    by_cases hp : p x = true
    · rw [List.filter_cons_of_pos hp, List.findSome?_cons, List.findSome?_cons, some_filter h]
    · have hc : c x = none := Classical.byContradiction fun z => hp (h x z)
      rw [List.filter_cons_of_neg hp, List.findSome?_cons, hc, some_filter h]
theorem enum_rT : ∀ {R : List Rul} , enumD 0 (R.map rT) = (ups 0 R.length).map fun k => .tup [.int k, rT (R.getD k.toNat rD)] := by
  have key : ∀ (R P : List Rul), enumD P.length (R.map rT) = (ups (P.length : Int) R.length).map fun k => .tup [.int k, rT ((P ++ R).getD k.toNat rD)] := by
    intro R
    induction R with
    | nil => intro P; rfl
    | cons r R ih =>
      intro P
      have := ih (P ++ [r])
      rw [List.length_append, List.length_singleton] at this
      rw [List.map_cons, enumD_cons, this, List.length_cons, ups, List.map_cons]
      congr 1
      · rw [Int.toNat_natCast, List.getD_eq_getElem?_getD, List.getElem?_append_right (Nat.le_refl _)]
        simp
      · rw [show ((P.length : Int) + 1) = ((P.length + 1 : Nat) : Int) by omega]
        simp
  intro R
  exact key R []
end VL

set_option Elab.async false
set_option linter.all false
set_option maxRecDepth 100000
set_option maxHeartbeats 2000000
/-! VY: books of rulings: what says what, soundness, rulings that are passed (plain theory). -/
namespace VL
open PySem PySem.Spec PyProof.Rows L2 VL.Emb
/-! order of cases -/
theorem gr_refl (s : Nat) (a : Int) : gr s a a = true := by simp [gr]
theorem gr_iff {s : Nat} {a b : Int} : gr s a b = true ↔ (s = 43 → b ≤ a) ∧ (s = 45 → a ≤ b) := by
  unfold gr
  by_cases h1 : s = 43
  · subst h1; simp
  · by_cases h2 : s = 45
    · subst h2; simp
    · simp [h1, h2]
theorem geB_refl : ∀ (S : List Nat) (c : Cse), geB S c c = true
  | [], _ => rfl
  | _ :: _, [] => rfl
  | s :: S, a :: c => by rw [geB, gr_refl, geB_refl S c]; rfl
theorem geB_trans : ∀ {S : List Nat} {c d e : Cse}, c.length = S.length → d.length = S.length → e.length = S.length → geB S c d = true → geB S d e = true → geB S c e = true
  | [], _, _, _, _, _, _, _, _ => rfl
  | s :: S, [], _, _, h, _, _, _, _ => by cases h
  | s :: S, _ :: _, [], _, _, h, _, _, _ => by cases h
  | s :: S, _ :: _, _ :: _, [], _, _, h, _, _ => by cases h
  | s :: S, a :: c, b :: d, x :: e, h1, h2, h3, g1, g2 => by
    rw [geB, Bool.and_eq_true, gr_iff] at g1 g2 ⊢
    refine ⟨⟨fun q => ?_, fun q => ?_⟩, geB_trans (by simpa using h1) (by simpa using h2) (by simpa using h3) g1.2 g2.2⟩
    · have := g1.1.1 q; have := g2.1.1 q; omega
    · have := g1.1.2 q; have := g2.1.2 q; omega
theorem geB_anti : ∀ {S : List Nat} {c d : Cse}, (∀ s ∈ S, s = 43 ∨ s = 45) → c.length = S.length → d.length = S.length → geB S c d = true → geB S d c = true → c = d
  | [], [], [], _, _, _, _, _ => rfl
  | [], _ :: _, _, _, h, _, _, _ => by cases h
  | [], _, _ :: _, _, _, h, _, _ => by cases h
  | s :: S, [], _, _, h, _, _, _ => by cases h
  | s :: S, _ :: _, [], _, _, h, _, _ => by cases h
  | s :: S, a :: c, b :: d, hs, h1, h2, g1, g2 => by
    rw [geB, Bool.and_eq_true, gr_iff] at g1 g2
    have e : a = b := by
      rcases hs s List.mem_cons_self with q | q
      · have := g1.1.1 q; have := g2.1.1 q; omega
      · have := g1.1.2 q; have := g2.1.2 q; omega
    rw [e, geB_anti (fun y hy => hs y (List.mem_cons_of_mem _ hy)) (by simpa using h1) (by simpa using h2) g1.2 g2.2]
theorem Hs.tr {n : Nat} {S : List Nat} {c d e : Cse} (H : Hs n S) (hc : CaseOk n c) (hd : CaseOk n d) (he : CaseOk n e) (g1 : geB S c d = true) (g2 : geB S d e = true) : geB S c e = true := geB_trans (hc.l.trans H.l.symm) (hd.l.trans H.l.symm) (he.l.trans H.l.symm) g1 g2
theorem Hs.an {n : Nat} {S : List Nat} {c d : Cse} (H : Hs n S) (hc : CaseOk n c) (hd : CaseOk n d) (g1 : geB S c d = true) (g2 : geB S d c = true) : c = d := geB_anti H.c (hc.l.trans H.l.symm) (hd.l.trans H.l.symm) g1 g2
/-! places of a list of rulings -/
theorem mem_getD {R : List Rul} {r : Rul} (h : r ∈ R) : ∃ i : Int, 0 ≤ i ∧ i < R.length ∧ R.getD i.toNat rD = r := by
  obtain ⟨i, hi, e⟩ := List.getElem_of_mem h
  exact ⟨(i : Nat), by omega, by omega, by rw [Int.toNat_natCast, List.getD_eq_getElem?_getD, List.getElem?_eq_getElem hi, Option.getD_some, e]⟩
theorem ups_getD {R : List Rul} : (ups 0 R.length).map (fun k => R.getD k.toNat rD) = R := by
  apply List.ext_getElem?
  intro i
  rw [List.getElem?_map]
  by_cases h : i < R.length
  · rw [ups_get _ _ _ h, Option.map_some, List.getElem?_eq_getElem h, show ((0 : Int) + (i : Nat)).toNat = i by omega, List.getD_eq_getElem?_getD, List.getElem?_eq_getElem h]; rfl
  · rw [List.getElem?_eq_none (by rw [ups_len]; omega), List.getElem?_eq_none (by omega)]; rfl
/-! lists of rulings as data -/
def ansX (b : Bool) : Txt := cond b tR tK
theorem ansT_X (b : Bool) : ansT b = emb (ansX b) := rfl
theorem ansX_inj {a b : Bool} : ansX a = ansX b ↔ a = b := by cases a <;> cases b <;> simp [ansX]
theorem ansX_ok (b : Bool) : EmbEq.ok (ansX b) := by
  intro c hc
  cases b <;> simp [ansX] at hc <;> omega
def rX (r : Rul) : Tup Int × Txt := (uT r.1, ansX r.2)
theorem rT_X (r : Rul) : rT r = emb (rX r) := rfl
theorem rX_inj {a b : Rul} : rX a = rX b ↔ a = b := by
  rw [rX, rX, Prod.mk.injEq, tup_eq, ansX_inj]; exact Prod.ext_iff.symm
theorem rX_ok (r : Rul) : EmbEq.ok (rX r) := ⟨tok _, ansX_ok _⟩
theorem map_inj {α β : Type} {f : α → β} (h : ∀ a b, f a = f b → a = b) : ∀ {l m : List α}, l.map f = m.map f → l = m
  | [], [], _ => rfl
  | [], _ :: _, e => by cases e
  | _ :: _, [], e => by cases e
  | a :: l, b :: m, e => by
    rw [List.map_cons, List.map_cons, List.cons.injEq] at e
    rw [h _ _ e.1, map_inj h e.2]
theorem map_rT (R : List Rul) : R.map rT = (R.map rX).map emb := by rw [List.map_map]; rfl
theorem rXs_ok (R : List Rul) : EmbEq.ok (R.map rX) := fun y hy => by obtain ⟨z, _, rfl⟩ := List.mem_map.mp hy; exact rX_ok z
theorem rXs_inj {A B : List Rul} : A.map rX = B.map rX ↔ A = B := ⟨map_inj fun _ _ h => rX_inj.mp h, fun h => by rw [h]⟩
theorem dNe_rTs {A B : List Rul} : dNe (.lst (A.map rT)) (.lst (B.map rT)) = some (.bl (!decide (A = B))) := by
  have := dNe_emb (a := A.map rX) (b := B.map rX) (by decide) (rXs_ok A) (rXs_ok B)
  simp only [rXs_inj] at this
  rw [map_rT, map_rT]; exact this
theorem dEq_rTs {A B : List Rul} : dEq (.lst (A.map rT)) (.lst (B.map rT)) = some (.bl (decide (A = B))) := by
  have := dEq_emb (a := A.map rX) (b := B.map rX) (by decide) (rXs_ok A) (rXs_ok B)
  simp only [rXs_inj] at this
  rw [map_rT, map_rT]; exact this
/-! what a ruling says, what passes it -/
/-- the ruling says something of the case -/
def saB (S : List Nat) (r : Rul) (c : Cse) : Bool := if r.2 = true then geB S c r.1 else geB S r.1 c
/-- ruling j passes ruling k -/
def paB (S : List Nat) (R : List Rul) (k j : Int) : Bool := (!(j == k) && (((R.getD j.toNat rD).2 == (R.getD k.toNat rD).2) && saB S (R.getD j.toNat rD) (R.getD k.toNat rD).1)) && (!decide ((R.getD j.toNat rD).1 = (R.getD k.toNat rD).1) || decide (j < k))
def pasB (S : List Nat) (R : List Rul) (k : Int) : Bool := (ups 0 R.length).any (paB S R k)
/-- the indexes of the rulings that are not passed, these rulings -/
def keptI (S : List Nat) (R : List Rul) : List Int := (ups 0 R.length).filter fun k => !pasB S R k
def kept (S : List Nat) (R : List Rul) : List Rul := (keptI S R).map fun k => R.getD k.toNat rD
def bdB (S : List Nat) (R : List Rul) (c : Cse) : List Bool := ((R.filter fun r => saB S r c).map (·.2)).take 1
def Snd (S : List Nat) (R : List Rul) : Prop := ∀ r1 ∈ R, ∀ r2 ∈ R, r1.2 = true → r2.2 = false → geB S r2.1 r1.1 = false
theorem filt_lt {α : Type} {p q : α → Bool} {x : α} (hp : p x = false) (hq : q x = true) (h : ∀ y, p y = true → q y = true) : ∀ {l : List α}, x ∈ l → (l.filter p).length < (l.filter q).length
  | [], hx => by cases hx
  | y :: l, hx => by
    have le : ∀ l : List α, (l.filter p).length ≤ (l.filter q).length := fun l => by
      induction l with
      | nil => exact Nat.le_refl _
      | cons z l ih =>
        rw [List.filter_cons, List.filter_cons]
        cases hz : p z with
        | true => rw [h z hz]; simpa using ih
        | false =>
          cases q z with
          | true => simp only [Bool.false_eq_true, if_false, if_true, List.length_cons]; omega
          | false => simpa using ih
    by_cases e : y = x
    · subst e
      rw [List.filter_cons, List.filter_cons, hp, hq]
      have := le l
      simp only [Bool.false_eq_true, if_false, if_true, List.length_cons]; omega
    · have hx : x ∈ l := by
        rcases List.mem_cons.mp hx with z | z
        · exact absurd z.symm e
        · exact z
      have := filt_lt hp hq h hx
      rw [List.filter_cons, List.filter_cons]
      cases hz : p y with
      | true => rw [h y hz]; simpa using this
      | false =>
        cases q y with
        | true => simp only [Bool.false_eq_true, if_false, if_true, List.length_cons]; omega
        | false => simpa using this
section
variable {n : Nat} {S : List Nat} {c d : Cse} {R : List Rul}
theorem saB_self (r : Rul) : saB S r r.1 = true := by unfold saB; split <;> exact geB_refl _ _
theorem fc_none : fc S R = none ↔ Snd S R := by
  unfold fc
  rw [List.findSome?_eq_none_iff]
  constructor
  · intro h r1 h1 r2 h2 e1 e2
    obtain ⟨i, i0, i1, ei⟩ := mem_getD h1
    obtain ⟨j, j0, j1, ej⟩ := mem_getD h2
    have f := h i (mem_ups.mpr ⟨i0, by omega⟩)
    unfold fcr at f
    rw [Option.map_eq_none_iff, List.find?_eq_none] at f
    have g := f j (mem_ups.mpr ⟨j0, by omega⟩)
    rw [crB, ei, ej, e1, e2] at g
    simpa using g
  · intro h i hi
    have hi := mem_ups.mp hi
    unfold fcr
    rw [Option.map_eq_none_iff, List.find?_eq_none]
    intro j hj
    have hj := mem_ups.mp hj
    have m1 := getR (R := R) (i := i.toNat) (by omega)
    have m2 := getR (R := R) (i := j.toNat) (by omega)
    unfold crB
    cases e1 : (R.getD i.toNat rD).2 with
    | false => simp
    | true =>
      cases e2 : (R.getD j.toNat rD).2 with
      | true => simp
      | false => rw [h _ m1 _ m2 e1 e2]; simp
theorem Snd.sub {Q : List Rul} (h : Snd S R) (s : ∀ r ∈ Q, r ∈ R) : Snd S Q := fun r1 h1 r2 h2 => h r1 (s r1 h1) r2 (s r2 h2)
/-- in a sound book all rulings that say something of a case say the same -/
theorem Snd.same (H : Hs n S) (hR : ∀ r ∈ R, CaseOk n r.1) (h : Snd S R) (hc : CaseOk n c) {r1 r2 : Rul} (h1 : r1 ∈ R) (h2 : r2 ∈ R) (s1 : saB S r1 c = true) (s2 : saB S r2 c = true) : r1.2 = r2.2 := by
  have key : ∀ {r1 r2 : Rul}, r1 ∈ R → r2 ∈ R → saB S r1 c = true → saB S r2 c = true → r1.2 = true → r2.2 = false → False := fun {r1 r2} h1 h2 s1 s2 e1 e2 => by
    unfold saB at s1 s2
    rw [if_pos e1] at s1
    rw [if_neg (by rw [e2]; decide)] at s2
    have := H.tr (hR _ h2) hc (hR _ h1) s2 s1
    rw [h _ h1 _ h2 e1 e2] at this; cases this
  cases e1 : r1.2 <;> cases e2 : r2.2
  · rfl
  · exact (key h2 h1 s2 s1 e2 e1).elim
  · exact (key h1 h2 s1 s2 e1 e2).elim
  · rfl
theorem bd_nil (h : ∀ r ∈ R, saB S r c = false) : bdB S R c = [] := by
  unfold bdB
  rw [List.filter_eq_nil_iff.mpr fun r hr => by rw [h r hr]; decide]; rfl
theorem bd_one {b : Bool} {r : Rul} (hr : r ∈ R) (hs : saB S r c = true) (h : ∀ r ∈ R, saB S r c = true → r.2 = b) : bdB S R c = [b] := by
  unfold bdB
  have m : r ∈ R.filter fun r => saB S r c := List.mem_filter.mpr ⟨hr, hs⟩
  cases e : R.filter fun r => saB S r c with
  | nil => rw [e] at m; cases m
  | cons x l =>
    have mx : x ∈ R.filter fun r => saB S r c := by rw [e]; exact List.mem_cons_self
    rw [List.mem_filter] at mx
    simp [h x mx.1 mx.2]
theorem pa_iff {k j : Int} : paB S R k j = true ↔ j ≠ k ∧ (R.getD j.toNat rD).2 = (R.getD k.toNat rD).2 ∧ saB S (R.getD j.toNat rD) (R.getD k.toNat rD).1 = true ∧ ((R.getD j.toNat rD).1 = (R.getD k.toNat rD).1 → j < k) := by
  unfold paB
  simp only [Bool.and_eq_true, Bool.not_eq_true', beq_eq_false_iff_ne, ne_eq, beq_iff_eq, Bool.or_eq_true, decide_eq_false_iff_not, decide_eq_true_eq]
  constructor
  · rintro ⟨⟨a, b, c⟩, d⟩; exact ⟨a, b, c, fun e => d.elim (fun z => absurd e z) id⟩
  · rintro ⟨a, b, c, d⟩; exact ⟨⟨a, b, c⟩, (Classical.em _).elim (fun z => .inr (d z)) .inl⟩
theorem sa_tr (H : Hs n S) {a b r : Rul} (ha : CaseOk n a.1) (hb : CaseOk n b.1) (hc : CaseOk n c) (e : a.2 = b.2) (s1 : saB S a b.1 = true) (s2 : saB S b c = true) : saB S a c = true := by
  unfold saB at *
  cases h : b.2 with
  | true => rw [e, h] at s1 ⊢; rw [h] at s2; exact H.tr hc hb ha s2 s1
  | false => rw [e, h] at s1 ⊢; rw [h] at s2; exact H.tr ha hb hc s1 s2
theorem sa_an (H : Hs n S) {a b : Rul} (ha : CaseOk n a.1) (hb : CaseOk n b.1) (e : a.2 = b.2) (s1 : saB S a b.1 = true) (s2 : saB S b a.1 = true) : a.1 = b.1 := by
  unfold saB at *
  cases h : b.2 with
  | true => rw [e, h] at s1; rw [h] at s2; exact H.an ha hb s2 s1
  | false => rw [e, h] at s1; rw [h] at s2; exact H.an ha hb s1 s2
theorem pa_tr (H : Hs n S) (hR : ∀ r ∈ R, CaseOk n r.1) {k j i : Int} (hk : 0 ≤ k ∧ k < R.length) (hj : 0 ≤ j ∧ j < R.length) (hi : 0 ≤ i ∧ i < R.length) (a : paB S R k j = true) (b : paB S R j i = true) : paB S R k i = true := by
  rw [pa_iff] at *
  obtain ⟨a1, a2, a3, a4⟩ := a
  obtain ⟨b1, b2, b3, b4⟩ := b
  have ck := hR _ (getR (R := R) (i := k.toNat) (by omega))
  have cj := hR _ (getR (R := R) (i := j.toNat) (by omega))
  have ci := hR _ (getR (R := R) (i := i.toNat) (by omega))
  have lt : (R.getD i.toNat rD).1 = (R.getD k.toNat rD).1 → i < k := fun e => by
    have q := sa_an H cj ci b2.symm (by rw [e]; exact a3) b3
    have := a4 (q.trans e)
    have := b4 q.symm
    omega
  refine ⟨fun e => ?_, b2.trans a2, sa_tr H (r := rD) ci cj ck b2 b3 a3, lt⟩
  subst e
  have := lt rfl
  omega
theorem pa_irr {k : Int} : paB S R k k = false := by
  cases h : paB S R k k with
  | false => rfl
  | true => exact absurd rfl (pa_iff.mp h).1
/-- above every ruling stands one that is not passed -/
theorem kept_up (H : Hs n S) (hR : ∀ r ∈ R, CaseOk n r.1) : ∀ (m : Nat) (k : Int), ((ups 0 R.length).filter (paB S R k)).length ≤ m → 0 ≤ k → k < R.length → ∃ j, j ∈ keptI S R ∧ (j = k ∨ paB S R k j = true)
  | m, k, hm, k0, k1 => by
    cases h : pasB S R k with
    | false => exact ⟨k, List.mem_filter.mpr ⟨mem_ups.mpr ⟨k0, by omega⟩, by rw [h]; rfl⟩, .inl rfl⟩
    | true =>
      unfold pasB at h
      rw [List.any_eq_true] at h
      obtain ⟨j, hj, e⟩ := h
      have hj' := mem_ups.mp hj
      have lt : ((ups 0 R.length).filter (paB S R j)).length < ((ups 0 R.length).filter (paB S R k)).length := by
        have e1 : (ups 0 R.length).filter (paB S R j) = (ups 0 R.length).filter (fun i : Int => decide (0 ≤ i ∧ i < R.length) && paB S R j i) := by
          apply List.filter_congr
          intro x hx
          have := mem_ups.mp hx
          rw [decide_eq_true (by omega), Bool.true_and]
        rw [e1]
        refine filt_lt (x := j) ?_ e (fun y hy => ?_) hj
        · rw [pa_irr, Bool.and_false]
        · rw [Bool.and_eq_true, decide_eq_true_eq] at hy
          exact pa_tr H hR ⟨k0, k1⟩ ⟨hj'.1, by omega⟩ hy.1 e hy.2
      match m with
      | 0 => omega
      | m + 1 =>
        obtain ⟨i, hi, z⟩ := kept_up H hR m j (by omega) hj'.1 (by omega)
        refine ⟨i, hi, .inr ?_⟩
        rcases z with rfl | z
        · exact e
        · have hi' := mem_ups.mp (List.mem_filter.mp hi).1
          exact pa_tr H hR ⟨k0, k1⟩ ⟨hj'.1, by omega⟩ ⟨hi'.1, by omega⟩ e z
theorem mem_kept {r : Rul} : r ∈ kept S R ↔ ∃ k ∈ keptI S R, R.getD k.toNat rD = r := List.mem_map
theorem keptI_r {k : Int} (h : k ∈ keptI S R) : 0 ≤ k ∧ k < R.length := by
  have := mem_ups.mp (List.mem_filter.mp h).1
  omega
theorem kept_sub {r : Rul} (h : r ∈ kept S R) : r ∈ R := by
  obtain ⟨k, hk, rfl⟩ := mem_kept.mp h
  have := keptI_r hk
  exact getR (by omega)
theorem kept_says (H : Hs n S) (hR : ∀ r ∈ R, CaseOk n r.1) (hc : CaseOk n c) {r : Rul} (hr : r ∈ R) (hs : saB S r c = true) : ∃ q ∈ kept S R, saB S q c = true := by
  obtain ⟨k, k0, k1, rfl⟩ := mem_getD hr
  obtain ⟨j, hj, z⟩ := kept_up H hR _ k (Nat.le_refl _) k0 k1
  refine ⟨_, mem_kept.mpr ⟨j, hj, rfl⟩, ?_⟩
  rcases z with rfl | z
  · exact hs
  · have := keptI_r hj
    have z := pa_iff.mp z
    exact sa_tr H (r := rD) (hR _ (getR (by omega))) (hR _ hr) hc z.2.1 z.2.2.1 hs
theorem kept_bd (H : Hs n S) (hR : ∀ r ∈ R, CaseOk n r.1) (h : Snd S R) (hc : CaseOk n c) : bdB S (kept S R) c = bdB S R c := by
  by_cases q : ∃ r ∈ R, saB S r c = true
  · obtain ⟨r, hr, hs⟩ := q
    obtain ⟨p, hp, ps⟩ := kept_says H hR hc hr hs
    rw [bd_one hr hs (b := r.2) fun x hx sx => h.same H hR hc hx hr sx hs, bd_one hp ps (b := r.2) fun x hx sx => h.same H hR hc (kept_sub hx) hr sx hs]
  · have q : ∀ r ∈ R, saB S r c = false := fun r hr => Bool.eq_false_iff.mpr fun z => q ⟨r, hr, z⟩
    rw [bd_nil q, bd_nil fun r hr => q r (kept_sub hr)]
theorem not_pas {k : Int} (h : k ∈ keptI S R) {j : Int} (j0 : 0 ≤ j) (j1 : j < R.length) : paB S R k j = false := by
  have := (List.mem_filter.mp h).2
  rw [Bool.not_eq_true'] at this
  unfold pasB at this
  rw [List.any_eq_false] at this
  exact Bool.eq_false_iff.mpr (this j (mem_ups.mpr ⟨j0, by omega⟩))
/-- a ruling that is not passed is the only such one that says its own case -/
theorem kept_apart (H : Hs n S) (hR : ∀ r ∈ R, CaseOk n r.1) {i j : Int} (hi : i ∈ keptI S R) (hj : j ∈ keptI S R) (ne : i ≠ j) (e : (R.getD j.toNat rD).2 = (R.getD i.toNat rD).2) : saB S (R.getD j.toNat rD) (R.getD i.toNat rD).1 = false := by
  refine Bool.eq_false_iff.mpr fun s => ?_
  have ri := keptI_r hi
  have rj := keptI_r hj
  have a := not_pas hi rj.1 rj.2
  have b := not_pas hj ri.1 ri.2
  rw [Bool.eq_false_iff, ne_eq, pa_iff] at a b
  by_cases q : (R.getD j.toNat rD).1 = (R.getD i.toNat rD).1
  · by_cases l : j < i
    · exact a ⟨fun z => ne z.symm, e, s, fun _ => l⟩
    · exact b ⟨ne, e.symm, by rw [q]; exact saB_self _, fun _ => by omega⟩
  · exact a ⟨fun z => ne z.symm, e, s, fun z => absurd z q⟩
theorem keptI_nd : (keptI S R).Nodup := List.Pairwise.filter _ (ups_nodup _ _)
theorem kept_get {k : Int} (h0 : 0 ≤ k) (h : k < (kept S R).length) : ∃ i ∈ keptI S R, (kept S R).getD k.toNat rD = R.getD i.toNat rD ∧ (keptI S R)[k.toNat]? = some i := by
  have l : k.toNat < (keptI S R).length := by rw [kept, List.length_map] at h; omega
  refine ⟨(keptI S R)[k.toNat], List.getElem_mem _, ?_, List.getElem?_eq_getElem l⟩
  rw [List.getD_eq_getElem?_getD, kept, List.getElem?_map, List.getElem?_eq_getElem l]; rfl
theorem keptI_inj {k j i : Int} (k0 : 0 ≤ k) (j0 : 0 ≤ j) (a : (keptI S R)[k.toNat]? = some i) (b : (keptI S R)[j.toNat]? = some i) : k = j := by
  have := (List.getElem?_inj (List.getElem?_eq_some_iff.mp a).1 keptI_nd).mp (a.trans b.symm)
  omega
theorem kept_rs (hR : Rs n R) : Rs n (kept S R) := by
  refine ⟨fun r hr => hR.c _ (kept_sub hr), ?_⟩
  rw [kept, List.length_map, keptI]
  have := List.length_filter_le (fun k => !pasB S R k) (ups 0 R.length)
  rw [ups_len] at this
  have := hR.l
  omega
theorem kept_kept (H : Hs n S) (hR : ∀ r ∈ R, CaseOk n r.1) : kept S (kept S R) = kept S R := by
  have e : keptI S (kept S R) = ups 0 (kept S R).length := by
    rw [keptI, List.filter_eq_self]
    intro k hk
    have hk := mem_ups.mp hk
    rw [Bool.not_eq_true']
    unfold pasB
    rw [List.any_eq_false]
    intro j hj
    have hj := mem_ups.mp hj
    intro p
    obtain ⟨a, b, c, d⟩ := pa_iff.mp p
    obtain ⟨x, hx, ex, gx⟩ := kept_get (S := S) (R := R) (k := k) hk.1 (by omega)
    obtain ⟨y, hy, ey, gy⟩ := kept_get (S := S) (R := R) (k := j) hj.1 (by omega)
    rw [ex, ey] at b c
    have ne : x ≠ y := fun z => by subst z; exact a (keptI_inj hj.1 hk.1 gy gx)
    rw [kept_apart H hR hx hy ne b] at c; cases c
  conv => lhs; rw [kept, e]
  exact ups_getD
theorem cut_mem {α : Type} {l : List α} {k : Nat} {x : α} (hx : x ∈ l.take k ++ l.drop (k + 1)) : ∃ j : Nat, j ≠ k ∧ l[j]? = some x := by
  rcases List.mem_append.mp hx with h | h
  · obtain ⟨j, hj, e⟩ := List.getElem_of_mem h
    rw [List.length_take] at hj
    refine ⟨j, by omega, ?_⟩
    rw [List.getElem_take] at e
    rw [← e, List.getElem?_eq_getElem]
  · obtain ⟨j, hj, e⟩ := List.getElem_of_mem h
    rw [List.getElem_drop] at e
    exact ⟨k + 1 + j, by omega, by rw [← e, List.getElem?_eq_getElem]⟩
/-- without one of these rulings its own case is bound no more -/
theorem kept_need (H : Hs n S) (hR : ∀ r ∈ R, CaseOk n r.1) (h : Snd S R) {k : Int} (k0 : 0 ≤ k) (k1 : k < (kept S R).length) : bdB S ((kept S R).take k.toNat ++ (kept S R).drop (k.toNat + 1)) ((kept S R).getD k.toNat rD).1 = [] ∧ bdB S R ((kept S R).getD k.toNat rD).1 ≠ [] := by
  obtain ⟨i, hi, ei, gi⟩ := kept_get (S := S) (R := R) k0 k1
  have ri := keptI_r hi
  have mi := getR (R := R) (i := i.toNat) (by omega)
  rw [ei]
  constructor
  · refine bd_nil fun r hr => ?_
    obtain ⟨j, jk, ej⟩ := cut_mem hr
    have lj := (List.getElem?_eq_some_iff.mp ej).1
    obtain ⟨y, hy, ey, gy⟩ := kept_get (S := S) (R := R) (k := (j : Nat)) (by omega) (by omega)
    have e2 : (kept S R).getD (j : Int).toNat rD = r := by rw [Int.toNat_natCast, List.getD_eq_getElem?_getD, ej]; rfl
    have ry := keptI_r hy
    have my := getR (R := R) (i := y.toNat) (by omega)
    rw [← e2, ey]
    refine Bool.eq_false_iff.mpr fun s => ?_
    have ne : i ≠ y := fun z => by subst z; have := keptI_inj k0 (by omega) gi gy; omega
    have b := h.same H hR (hR _ mi) my mi s (saB_self _)
    rw [kept_apart H hR hi hy ne b] at s; cases s
  · rw [bd_one mi (saB_self _) (b := (R.getD i.toNat rD).2) fun x hx sx => h.same H hR (hR _ mi) hx mi sx (saB_self _)]
    simp
end
end VL

set_option Elab.async false
set_option linter.all false
set_option maxRecDepth 100000
set_option maxHeartbeats 2000000
namespace G_k06
open PySem PySem.Spec PyProof.Rows L2 VL VL.Emb
theorem b1_ok {s : Nat} {a b : Int} : m_at_least_b1 (.tup [.str [s], .int a, .int b]) () = .ok (if (!gr s a b) = true then .ret (.bl false) else .next ()) := by
  have u : un3 (.tup [.str [s], .int a, .int b]) = .ok (.str [s], .int a, .int b) := rfl
  simp only [m_at_least_b1, u, Res.bind_ok, str1, optS, toB_bl, dLt_int, dGt_int, ite_Bf, gr, Bool.decide_eq_true]
  exact two_ret
section
variable {n : Nat} {S : List Nat} {c d k : Cse} {ks : List Cse} {R : List Rul}
theorem at_least_ok : m_at_least (.str S) (dT c) (dT d) = .ok (.bl (geB S c d)) := by
  have w := zip_chk (f := m_at_least_b1) (fun s a b => b1_ok) S c d
  have z : zipR3 (.str S) (dT c) (dT d) = .ok (zipS S (c.map D.int) (d.map D.int)) := rfl
  simp only [m_at_least, z, Res.bind_ok, w]
  cases geB S c d <;> rfl
theorem law_ge_ok (h : S.length ≤ 1000) (hc : c.length = S.length) (hd : d.length = S.length) : m__law_ge (.str S) (dT c) (dT d) = .ok (.bl (geB S c d)) := by
  have ln : fLen [.str S] = some (.int (S.length : Nat)) := by rw [fLen_str]; omega
  have rg := rngI_1 (j := (S.length : Nat)) (by omega) (by omega)
  rw [Int.toNat_natCast] at rg
  have w := forB_chk (l := ups 0 S.length) (g := (emb : Int → D)) (f := m__law_ge_b1 (.str S) (dT c) (dT d)) (c := geI S c d) fun x hx => by
    have := mem_ups.mp hx
    have i1 := ixS (p := S) (x := x) (by omega) (by omega) (by omega)
    have i2 : dIx (dT c) (.int x) = some (.int (c.getD x.toNat 0)) := ixT (by omega) (by omega)
    have i3 : dIx (dT d) (.int x) = some (.int (d.getD x.toNat 0)) := ixT (by omega) (by omega)
    simp only [m__law_ge_b1, emb_int, i1, i2, i3, Res.bind_ok, str1, optS, toB_bl, dLt_int, dGt_int, ite_Bf, geI, gr, Bool.decide_eq_true]
    exact two_ret
  rw [geI_all S c d hc hd] at w
  simp only [m__law_ge, ln, rg, optS, Res.bind_ok, w, aft_all, noexn_ok]
theorem ge_ok (H : Hs n S) (hc : CaseOk n c) (hd : CaseOk n d) : m__law_ge (.str S) (dT c) (dT d) = .ok (.bl (geB S c d)) := law_ge_ok (by rw [H.l]; have := H.n5; omega) (by rw [hc.l, H.l]) (by rw [hd.l, H.l])
theorem whole_ok {d : D} (h : tyB d = true) : m_is_whole d = .ok (.bl (isI d)) := by
  cases d <;> first | (cases h; done) | simp [m_is_whole, tyD, isiB, isI]
theorem crosses_ok {i j : Int} (i0 : 0 ≤ i) (i1 : i < R.length) (j0 : 0 ≤ j) (j1 : j < R.length) : m_crosses (bookD S R) (.int i) (.int j) = .ok (.bl (crB S R i j)) := by
  simp only [m_crosses, fld_rul, fld_sides, ixRt i0 i1, ixRt j0 j1, optS, Res.bind_ok, rT_u, ans_r, ans_k, toB_bl, at_least_ok, ite_Df, Bool.decide_eq_true, noexn_ok, crB]
theorem fit_t {l : List D} : fIsi "tuple" [.tup l, .non] = some (.bl true) := rfl
theorem fit_no {d : D} (h : tyB d = true) (hd : ∀ l, d ≠ .tup l) : fIsi "tuple" [d, .non] = some (.bl false) := by
  cases d <;> first | (cases h; done) | (exact absurd rfl (hd _)) | rfl
theorem len_tup {l : List D} : fLen [.tup l] = some (.int (l.length : Nat)) := rfl
theorem b1c_ok {d : D} (h : tyB d = true) : m_is_case_b1 d () = .ok (if (!okx d) = true then .ret (.bl false) else .next ()) := by
  cases hd : isI d with
  | false =>
    have e : okx d = false := by cases d <;> first | rfl | (cases hd; done)
    simp only [m_is_case_b1, whole_ok h, hd, Res.bind_ok, truD_bl, optS, Bool.not_false, if_true, e]
  | true =>
    cases d <;> first | (cases hd; done) | skip
    rename_i i
    simp only [m_is_case_b1, whole_ok h, hd, Res.bind_ok, truD_bl, optS, Bool.not_true, Bool.false_eq_true, if_false, dLe_int, toB_bl, ite_Df, Bool.decide_eq_true, okx]
    rw [ite_ok]
    rfl
theorem gd_ty {d : D} (h : GD d) : tyB d = true := by
  cases d <;> first | exact h | rfl
theorem case_ok' (H : Hs n S) {d : D} (h : GD d) : m_is_case (.str S) d = .ok (.bl (caseB n d)) := by
  have ln : fLen [.str S] = some (.int (n : Nat)) := by rw [fLen_str (by rw [H.l]; have := H.n5; omega), H.l]
  by_cases hd : ∃ l, d = .tup l
  · obtain ⟨l, rfl⟩ := hd
    obtain ⟨_, h⟩ := h
    have w := forB_chk (l := l) (g := fun d => d) (f := m_is_case_b1) (c := okx) fun x hx => b1c_ok (h x hx)
    rw [List.map_id'] at w
    simp only [m_is_case, fit_t, optS, Res.bind_ok, truD_bl, Bool.not_true, Bool.false_eq_true, if_false, len_tup, ln, dNe_int, toB_bl, caseB]
    by_cases e : l.length = n
    · have e1 : ((l.length : Int) != (n : Int)) = false := by simp [e]
      simp only [e1, Bool.false_eq_true, if_false, itD_tup, optS, Res.bind_ok, w, aft_all, noexn_ok, decide_eq_true e, Bool.true_and]
    · have e1 : ((l.length : Int) != (n : Int)) = true := by simp; omega
      simp only [e1, if_true, noexn_ok, e, decide_false, Bool.false_and]
  · have e : caseB n d = false := by cases d <;> first | rfl | (exact absurd ⟨_, rfl⟩ hd)
    simp only [m_is_case, fit_no (gd_ty h) (fun l z => hd ⟨l, z⟩), optS, Res.bind_ok, truD_bl, Bool.not_false, if_true, noexn_ok, e]
theorem ans_ne {x b : Bool} : dNe (ansT x) (ansT b) = some (.bl (!(x == b))) := by
  cases x <;> cases b <;> simp [ansT]
theorem feed_ok (ns : List Int) : m__law_feed (.scr ns) = .ok (fd ns 0 0 1) := by simp [m__law_feed, fd]
theorem sides_ok {f : D} (hf : Feed f) : Post (m__law_sides f (.int 3)) (fun r => ∃ n S, r.1 = .str S ∧ Hs n S ∧ n ≤ 3 ∧ Feed r.2) := by
  unfold m__law_sides
  refine Post.noexn ?_
  refine Post.draw hf (by omega) (by omega) fun q f1 h1 q0 q1 => ?_
  have rg := rngI_1 (j := 1 + q) (by omega) (by omega)
  have lg : lenG ((ups 0 (1 + q).toNat).map (emb : Int → D)) = .ok () := lenG_ok (by simp; omega)
  simp only [dAdd_int, rg, optS, Res.bind_ok, lg]
  refine Post.bind (post_mapT (α := Txt) (I := Feed) (T := fun t => ∃ c, t = [c] ∧ (c = 43 ∨ c = 45)) (fun d _ f hf => ?_) h1) ?_
  · unfold m__law_sides_c1
    refine Post.draw hf (by omega) (by omega) fun r f1 h1 r0 r1 => ?_
    have e := ixS (p := [43, 45]) (x := r) r0 (by simpa using r1) (by simp)
    simp only [e, optS, Res.bind_ok]
    refine ⟨_, rfl, ⟨_, rfl, _, rfl, ?_⟩, h1⟩
    rcases (show r = 0 ∨ r = 1 by omega) with rfl | rfl
    · exact .inl rfl
    · exact .inr rfl
  · rintro ⟨_, f2⟩ ⟨cs, rfl, hl, hc, h2⟩
    have h2 : Feed f2 := h2
    have hl : cs.length = ((ups 0 (1 + q).toNat).map (emb : Int → D)).length := hl
    rw [List.length_map, ups_len] at hl
    obtain ⟨ow, e1, e2, e3⟩ := join1 (P := fun c => c = 43 ∨ c = 45) (out := cs.map (emb : Txt → D)) (fun y hy => by
      obtain ⟨t, ht, rfl⟩ := List.mem_map.mp hy
      obtain ⟨c, rfl, h⟩ := hc t ht
      exact ⟨c, rfl, h⟩) (by simp [hl]; omega)
    rw [List.length_map, hl] at e2
    simp only [e1, optS, Res.bind_ok]
    exact Post.ok ⟨(1 + q).toNat, ow, rfl, ⟨by omega, by omega, e2, e3⟩, by omega, h2⟩
theorem case_ok (H : Hs n S) {f : D} (hf : Feed f) : Post (m__law_case f (.str S)) (fun r => ∃ c, r.1 = dT c ∧ CaseOk n c ∧ Feed r.2) := by
  have n5 := H.n5
  have sl := H.l
  have lg : lenG (S.map fun c => D.str [c]) = .ok () := lenG_ok (by simp; omega)
  unfold m__law_case
  refine Post.noexn ?_
  simp only [itD_str, optS, Res.bind_ok, lg]
  refine Post.bind (post_mapT (α := Int) (I := Feed) (T := fun x => 0 ≤ x ∧ x < 4) (fun d _ f hf => ?_) hf) ?_
  · unfold m__law_case_c1
    refine Post.draw hf (by omega) (by omega) fun r f1 h1 r0 r1 => ?_
    exact Post.ok ⟨⟨r, rfl, r0, r1⟩, h1⟩
  · rintro ⟨_, f2⟩ ⟨l, rfl, hl, hc, h2⟩
    have h2 : Feed f2 := h2
    have hl : l.length = (S.map fun c => D.str [c]).length := hl
    rw [List.length_map, sl] at hl
    simp only [fTuple_emb, optS, Res.bind_ok]
    exact Post.ok ⟨l, rfl, ⟨hl, hc⟩, h2⟩
theorem sl_tup {l : Cse} {lo hi : Option Int} : dSlice (dT l) lo hi = some (dT (cutA l lo hi)) := by
  rw [dT, dSlice_tup, cut_map]; rfl
theorem ad_tup {a b : Cse} (h : a.length + b.length ≤ 1000) : dAdd (dT a) (dT b) = some (dT (a ++ b)) := by
  show dAdd (.tup (a.map D.int)) (.tup (b.map D.int)) = _
  rw [dAdd_tup (by simp; omega), ← List.map_append]; rfl
theorem pick2 {b : Bool} : (opt (fInt [.bl b])).bind (fun t => (opt (dIx (.lst [.str [107, 101, 101, 112], .str [114, 101, 109, 111, 118, 101]]) t))) = .ok (ansT b) := by
  cases b <;> rfl
theorem app_rT {a : List Rul} {r : Rul} (h : a.length < 16777216) : mAppend (a.map rT) [.tup [dT r.1, ansT r.2]] = some ((a ++ [r]).map rT, .non) := by
  have : mAppend (a.map rT) [rT r] = some (a.map rT ++ [rT r], .non) := if_pos (by simpa using h)
  rw [show (.tup [dT r.1, ansT r.2] : D) = rT r from rfl, this, List.map_append]; rfl
theorem j3_ok (H : Hs n S) (hk : ∀ k ∈ ks, CaseOk n k) (hl : ks.length ≤ 100) (hc : CaseOk n c) (hR : R.length ≤ 100) {f : D} : ∃ b, m__law_rulings_j3 f (.str S) (cs ks) (.lst (R.map rT)) (dT c) = .ok (f, .lst ((R ++ [(c, b)]).map rT)) := by
  have m := mFil_map (l := ks) (g := dT) (f := m__law_rulings_c4 (.str S) (dT c)) (h := dT) (c := fun k => geB S c k) fun k h => by
    simp only [m__law_rulings_c4, ge_ok H hc (hk k h), Res.bind_ok, truD_bl, optS]
    split <;> rfl
  have lg : lenG (ks.map dT) = .ok () := lenG_ok (by simp; omega)
  refine ⟨ks.any fun k => geB S c k, ?_⟩
  have p := pick2 (b := ks.any fun k => geB S c k)
  have ap := app_rT (a := R) (r := (c, ks.any fun k => geB S c k)) (by omega)
  simp only [m__law_rulings_j3, itD_lst, lg, m, fLen_lst, List.length_map, dGt_int, filtP, toL_lst, optS, Res.bind_ok]
  generalize (ks.any fun k => geB S c k) = b at p ap ⊢
  cases b with
  | true =>
    have q1 : fInt [.bl true] = some (.int 1) := rfl
    have q2 : dIx (.lst [.str [107, 101, 101, 112], .str [114, 101, 109, 111, 118, 101]]) (.int 1) = some (ansT true) := rfl
    simp only [q1, q2, optS, Res.bind_ok, ap]
  | false =>
    have q1 : fInt [.bl false] = some (.int 0) := rfl
    have q2 : dIx (.lst [.str [107, 101, 101, 112], .str [114, 101, 109, 111, 118, 101]]) (.int 0) = some (ansT false) := rfl
    simp only [q1, q2, optS, Res.bind_ok, ap]
theorem rulings_ok (H : Hs n S) {f : D} {most : Int} (m0 : 0 ≤ most) (m1 : most ≤ 30) (hf : Feed f) : Post (m__law_rulings f (.str S) (.int most)) (fun r => ∃ R : List Rul, r.1 = .lst (R.map rT) ∧ Rs n R ∧ Feed r.2) := by
  have n5 := H.n5
  have n1 := H.n1
  have sl := H.l
  unfold m__law_rulings
  refine Post.noexn ?_
  refine Post.draw hf (by omega) (by omega) fun q f1 h1 q0 q1 => ?_
  have rg := rngI_1 (j := q) (by omega) (by omega)
  have lg : lenG ((ups 0 q.toNat).map (emb : Int → D)) = .ok () := lenG_ok (by simp; omega)
  simp only [rg, optS, Res.bind_ok, lg]
  refine Post.bind (post_mapT (α := Tup Int) (I := Feed) (T := fun t => CaseOk n t.l) (fun d _ f hf => ?_) h1) ?_
  · unfold m__law_rulings_c1
    rw [hf.cell, ckB_true, Res.bind_ok]
    refine Post.bind (case_ok H hf) ?_
    rintro ⟨_, f2⟩ ⟨c, rfl, hc, h2⟩
    have h2 : Feed f2 := h2
    exact Post.ok ⟨⟨uT c, rfl, hc⟩, h2⟩
  rintro ⟨_, f2⟩ ⟨l, rfl, hl, hc, h2⟩
  have h2 : Feed f2 := h2
  have hl : l.length = ((ups 0 q.toNat).map (emb : Int → D)).length := hl
  rw [List.length_map, ups_len] at hl
  obtain ⟨ks, rfl⟩ : ∃ ks : List Cse, l = ks.map uT := ⟨l.map Tup.l, by rw [List.map_map]; exact (List.map_id _).symm⟩
  rw [List.length_map] at hl
  have hk : ∀ k ∈ ks, CaseOk n k := fun k hk => hc _ (List.mem_map.mpr ⟨k, hk, rfl⟩)
  have e0 : ((ks.map uT).map emb : List D) = ks.map dT := (map_dT ks).symm
  simp only [dAdd_int, optS, Res.bind_ok, e0]
  refine Post.draw h2 (by omega) (by omega) fun t f3 h3 t0 t1 => ?_
  have rg2 := rngI_1 (j := t) (by omega) (by omega)
  simp only [rg2, optS, Res.bind_ok]
  refine Post.bind (post_forN (I := fun ds (s : D × D) => ∃ (R : List Rul) (f : D), s = (f, .lst (R.map rT)) ∧ Feed f ∧ R.length + ds.length ≤ 30 ∧ ∀ r ∈ R, CaseOk n r.1) ?_ ⟨[], f3, rfl, h3, by simp; omega, by simp⟩) ?_
  · rintro d ds s ⟨R, f, rfl, hf, hl2, hR⟩
    simp only [List.length_cons] at hl2
    unfold m__law_rulings_b2
    have fin : ∀ (f : D) (c : Cse), Feed f → CaseOk n c → Post (m__law_rulings_j3 f (.str S) (cs ks) (.lst (R.map rT)) (dT c)) (fun s => ∃ (R : List Rul) (f : D), s = (f, .lst (R.map rT)) ∧ Feed f ∧ R.length + ds.length ≤ 30 ∧ ∀ r ∈ R, CaseOk n r.1) := fun f c hf hc => by
      obtain ⟨b, e⟩ := j3_ok (R := R) H hk (by omega) hc (by omega) (f := f)
      refine ⟨_, e, R ++ [(c, b)], f, rfl, hf, by simp; omega, fun r hr => ?_⟩
      rcases List.mem_append.mp hr with hr | hr
      · exact hR r hr
      · rw [List.mem_singleton.mp hr]; exact hc
    simp only []
    rw [hf.cell, ckB_true, Res.bind_ok]
    refine Post.bind (case_ok H hf) ?_
    rintro ⟨_, f1⟩ ⟨c, rfl, hc, h1⟩
    have h1 : Feed f1 := h1
    simp only [fLen_lst, List.length_map, dGt_int, optS, Res.bind_ok, toB_bl]
    refine Post.bind (P := fun p : Bool × D => Feed p.2 ∧ (p.1 = true → 0 < R.length)) ?_ ?_
    · by_cases h0 : (0 : Int) < (R.length : Nat)
      · rw [if_pos (decide_eq_true h0)]
        refine Post.draw h1 (by omega) (by omega) fun r f2 h2 r0 r1 => ?_
        simp only [dEq_int, optS, Res.bind_ok, toB_bl]
        exact Post.ok ⟨h2, fun _ => by omega⟩
      · rw [if_neg (fun z => h0 (of_decide_eq_true z))]
        exact Post.ok ⟨h1, fun z => by cases z⟩
    · rintro ⟨b, f2⟩ ⟨h2, hb⟩
      have h2 : Feed f2 := h2
      have hb : b = true → 0 < R.length := hb
      simp only []
      refine Post.ite (fun hbt => ?_) fun _ => fin f2 c h2 hc
      have r0 := hb hbt
      refine Post.draw h2 (by omega) (by omega) fun i f3 h3 i0 i1 => ?_
      have hr := hR _ (getR (R := R) (i := i.toNat) (by omega))
      obtain ⟨cc, ecc⟩ : ∃ cc, cc = (R.getD i.toNat rD).1 := ⟨_, rfl⟩
      rw [← ecc] at hr
      have ln : fLen [.str S] = some (.int (n : Nat)) := by rw [fLen_str (by omega), sl]
      simp only [ixRl i0 i1, rT_0, ← ecc, ln, optS, Res.bind_ok]
      refine Post.draw h3 (by omega) (by omega) fun a f4 h4 a0 a1 => ?_
      have s1 : dSlice (dT cc) none (some a) = some (dT (cc.take a.toNat)) := by rw [sl_tup, cut_to a0]
      simp only [toI_int, s1, optS, Res.bind_ok]
      refine Post.draw h4 (by omega) (by omega) fun x f5 h5 x0 x1 => ?_
      have cl := hr.l
      have s2 : dSlice (dT cc) (some (a + 1)) none = some (dT (cc.drop (a + 1).toNat)) := by rw [sl_tup, cut_from (by omega)]
      have a1' : dAdd (dT (cc.take a.toNat)) (.tup [.int x]) = some (dT (cc.take a.toNat ++ [x])) := ad_tup (b := [x]) (by simp; omega)
      have a2 := ad_tup (a := cc.take a.toNat ++ [x]) (b := cc.drop (a + 1).toNat) (by simp; omega)
      simp only [a1', dAdd_int, toI_int, s2, a2, optS, Res.bind_ok]
      refine fin f5 _ h5 ⟨by simp; omega, fun y hy => ?_⟩
      rcases List.mem_append.mp hy with hy | hy
      · rcases List.mem_append.mp hy with hy | hy
        · exact hr.r y (List.mem_of_mem_take hy)
        · rw [List.mem_singleton.mp hy]; omega
      · exact hr.r y (List.mem_of_mem_drop hy)
  · rintro _ ⟨R, f, rfl, hf, hl2, hR⟩
    exact Post.ok ⟨R, rfl, ⟨hR, by simpa using hl2⟩, hf⟩
theorem flipped_ok (hR : Rs n R) {f : D} (hf : Feed f) : Post (m__law_flipped f (.lst (R.map rT))) (fun r => ∃ R : List Rul, r.1 = .lst (R.map rT) ∧ Rs n R ∧ Feed r.2) := by
  have fl : fList [.lst (R.map rT)] = some (.lst (R.map rT)) := rfl
  unfold m__law_flipped
  refine Post.noexn ?_
  simp only [fl, optS, Res.bind_ok]
  refine Post.draw hf (by omega) (by omega) fun q f1 h1 q0 q1 => ?_
  have rg := rngI_1 (j := q) (by omega) (by omega)
  simp only [rg, optS, Res.bind_ok]
  refine Post.bind (post_forN (I := fun ds (s : D × D) => ∃ (R : List Rul) (f : D), s = (f, .lst (R.map rT)) ∧ Feed f ∧ Rs n R) ?_ ⟨R, f1, rfl, h1, hR⟩) ?_
  · rintro d ds s ⟨R, f, rfl, hf, hR⟩
    have rl := hR.l
    unfold m__law_flipped_b1
    simp only [fLen_lst, List.length_map, dGt_int, optS, Res.bind_ok, toB_bl]
    refine Post.ite (fun h0 => ?_) fun _ => Post.ok ⟨R, f, rfl, hf, hR⟩
    have h0 := of_decide_eq_true h0
    refine Post.draw hf (by omega) (by omega) fun i f2 h2 i0 i1 => ?_
    have hr := hR.c _ (getR (R := R) (i := i.toNat) (by omega))
    have p := pick2 (b := !(R.getD i.toNat rD).2)
    obtain ⟨r, er⟩ : ∃ r, r = R.getD i.toNat rD := ⟨_, rfl⟩
    rw [← er] at hr p
    have fin : Post ((setR (.lst (R.map rT)) (.int i) (.tup [dT r.1, ansT (!r.2)])).bind fun found14 => (.ok (f2, found14) : Res (D × D))) (fun s => ∃ (R : List Rul) (f : D), s = (f, .lst (R.map rT)) ∧ Feed f ∧ Rs n R) := by
      have ix := ixN_pos (n := (R.map rT).length) (i := i) i0 (by simp; omega)
      simp only [setR_ok, ix, optS, Res.bind_ok]
      refine Post.ok ⟨R.set i.toNat (r.1, !r.2), f2, ?_, h2, fun x hx => ?_, by simpa using rl⟩
      · rw [List.map_set]; rfl
      · rcases List.mem_or_eq_of_mem_set hx with z | z
        · exact hR.c x z
        · rw [z]; exact hr
    simp only [ixRl i0 i1, ← er, rT_u, ans_k, optS, Res.bind_ok]
    cases hb : r.2 with
    | true =>
      rw [hb] at fin
      have q1 : fInt [.bl (!true)] = some (.int 0) := rfl
      have q2 : dIx (.lst [.str [107, 101, 101, 112], .str [114, 101, 109, 111, 118, 101]]) (.int 0) = some (ansT (!true)) := rfl
      simp only [q1, q2, optS, Res.bind_ok]
      exact fin
    | false =>
      rw [hb] at fin
      have q1 : fInt [.bl (!false)] = some (.int 1) := rfl
      have q2 : dIx (.lst [.str [107, 101, 101, 112], .str [114, 101, 109, 111, 118, 101]]) (.int 1) = some (ansT (!false)) := rfl
      simp only [q1, q2, optS, Res.bind_ok]
      exact fin
  · rintro _ ⟨R, f, rfl, hf, hR⟩
    exact Post.ok ⟨R, rfl, hR, hf⟩
theorem j1_ok (H : Hs n S) {f : D} {most : Int} (m0 : 0 ≤ most) (m1 : most ≤ 30) (hf : Feed f) : Post (m__law_some_book_j1 f (.str S) (.int most)) (fun r => ∃ n S R, r.1 = .tup [.str S, .lst (R.map rT)] ∧ Hs n S ∧ Rs n R ∧ Feed r.2) := by
  unfold m__law_some_book_j1
  rw [hf.cell, ckB_true, Res.bind_ok]
  refine Post.bind (rulings_ok H m0 m1 hf) ?_
  rintro ⟨_, f1⟩ ⟨R, rfl, hR, h1⟩
  have h1 : Feed f1 := h1
  simp only []
  refine Post.draw h1 (by omega) (by omega) fun q f2 h2 q0 q1 => ?_
  simp only [dEq_int, optS, Res.bind_ok, toB_bl]
  refine Post.ite (fun _ => ?_) fun _ => ?_
  · rw [h2.cell, ckB_true, Res.bind_ok]
    refine Post.bind (flipped_ok hR h2) ?_
    rintro ⟨_, f3⟩ ⟨R2, rfl, hR2, h3⟩
    have h3 : Feed f3 := h3
    exact Post.ok ⟨n, S, R2, rfl, H, hR2, h3⟩
  · exact Post.ok ⟨n, S, R, rfl, H, hR, h2⟩
theorem book_ok {f : D} (hf : Feed f) : Post (m__law_some_book f) (fun r => ∃ n S R, r.1 = .tup [.str S, .lst (R.map rT)] ∧ Hs n S ∧ Rs n R ∧ Feed r.2) := by
  unfold m__law_some_book
  refine Post.noexn ?_
  rw [hf.cell, ckB_true, Res.bind_ok]
  refine Post.bind (sides_ok hf) ?_
  rintro ⟨_, f1⟩ ⟨n, S, rfl, H, n3, h1⟩
  have h1 : Feed f1 := h1
  have sl := H.l
  simp only []
  refine Post.draw h1 (by omega) (by omega) fun q f2 h2 q0 q1 => ?_
  simp only [dEq_int, optS, Res.bind_ok, toB_bl]
  refine Post.ite (fun _ => ?_) fun _ => j1_ok H (by omega) (by omega) h2
  have ad : dAdd (.str S) (.str [43, 45]) = some (.str (S ++ [43, 45])) := dAdd_str (by simp; omega)
  simp only [ad, optS, Res.bind_ok]
  refine j1_ok (n := n + 2) ⟨by omega, by omega, by simp; omega, fun x hx => ?_⟩ (by omega) (by omega) h2
  rcases List.mem_append.mp hx with h | h
  · exact H.c x h
  · simpa using h
theorem forN_enum {f : D → Unit → Res Unit} : ∀ {l : List D} {k : Nat}, (∀ d ∈ l, ∀ i : Int, f (.tup [.int i, d]) () = .ok ()) → forN (enumD k l) () f = .ok ()
  | [], _, _ => rfl
  | d :: l, k, h => by
    rw [enumD_cons, forN_cons, h d List.mem_cons_self, Res.bind_ok]
    exact forN_enum fun x hx => h x (List.mem_cons_of_mem _ hx)
theorem check_ok (H : Hs n S) : m_check_sides (.str S) = .ok .non := by
  have n1 := H.n1
  have n5 := H.n5
  have ln : fLen [.str S] = some (.int (n : Nat)) := by rw [fLen_str (by rw [H.l]; omega), H.l]
  have w := forN_enum (l := S.map fun c => D.str [c]) (k := 0) (f := m_check_sides_b1) fun d hd i => by
    obtain ⟨c, hc, rfl⟩ := List.mem_map.mp hd
    have u : un2 (.tup [.int i, .str [c]]) = .ok (.int i, .str [c]) := rfl
    have e : dNotIn (.str [c]) (.str [43, 45]) = some (.bl false) := by
      rcases H.c c hc with rfl | rfl <;> rfl
    simp only [m_check_sides_b1, u, e, Res.bind_ok, optS, toB_bl, Bool.false_eq_true, if_false]
  have d1 : decide ((1 : Int) ≤ (n : Nat)) = true := decide_eq_true (by omega)
  have d2 : decide (((n : Nat) : Int) ≤ 5) = true := decide_eq_true (by omega)
  simp only [m_check_sides, ln, dLe_int, d1, d2, optS, Res.bind_ok, toB_bl, if_true, Bool.not_true, Bool.false_eq_true, if_false, enumR_str, w]
theorem gd_dT (h : c.length ≤ 100) : GD (dT c) := ⟨by simpa using h, fun x hx => by obtain ⟨i, _, rfl⟩ := List.mem_map.mp hx; rfl⟩
theorem ans_y {b : Bool} : m_is_answer (ansT b) = .ok (.bl true) := by
  cases b <;> rfl
theorem make_ok (H : Hs n S) (hR : Rs n R) : m_Book (.obj "Book" []) (.str S) (.lst (R.map rT)) = .ok (.non, bookD S R) := by
  have n5 := H.n5
  have rl := hR.l
  have w := forN_enum (l := R.map rT) (k := 0) (f := m_Book_b1 (.str S)) fun d hd i => by
    obtain ⟨r, hr, rfl⟩ := List.mem_map.mp hd
    have u : un2 (.tup [.int i, rT r]) = .ok (.int i, rT r) := rfl
    have t : fIsi "tuple" [rT r, .non] = some (.bl true) := rfl
    have l2 : fLen [rT r] = some (.int 2) := rfl
    have n2 : dNe (.int 2) (.int 2) = some (.bl false) := rfl
    have hc := hR.c r hr
    have ca := case_ok' H (gd_dT (c := r.1) (by have := hc.l; omega))
    rw [caseB_dT hc] at ca
    have e : m_is_ruling (.str S) (rT r) = .ok (.bl true) := by
      simp only [m_is_ruling, t, l2, n2, rT_0, rT_1, ca, ans_y (b := r.2), optS, Res.bind_ok, truD_bl, toB_bl, Bool.not_true, Bool.false_eq_true, if_false, if_true, noexn_ok]
    simp only [m_Book_b1, u, e, Res.bind_ok, optS, truD_bl, Bool.not_true, Bool.false_eq_true, if_false]
  have g : decide ((30 : Int) < (R.length : Nat)) = false := decide_eq_false (by omega)
  have s1 : setFR ["Book"] "sides" (.obj "Book" []) (.str S) = .ok (.obj "Book" [("sides", .str S)]) := rfl
  have s2 : setFR ["Book"] "rulings" (.obj "Book" [("sides", .str S)]) (.tup (R.map rT)) = .ok (bookD S R) := by
    show (if (["Book"].contains "Book" && decide (1 < 1000)) = true then (.ok (.obj "Book" (putFD "rulings" (.tup (R.map rT)) [("sides", .str S)])) : Res D) else .bad) = _
    rw [if_pos (by decide), putFD, if_neg (show ¬ (Str.ofString "sides" == Str.ofString "rulings") = true by decide)]; rfl
  have ft : fTuple [.lst (R.map rT)] = some (.tup (R.map rT)) := rfl
  simp only [m_Book, check_ok H, Res.bind_ok, fLen_lst, List.length_map, dGt_int, g, optS, toB_bl, Bool.false_eq_true, if_false, enumR_lst, w, s1, ft, s2]
end
end G_k06

set_option Elab.async false
set_option linter.all false
set_option maxRecDepth 100000
set_option maxHeartbeats 2000000
namespace G_k06
open PySem PySem.Spec PyProof.Rows L2 VL VL.Emb
section
variable {n : Nat} {S : List Nat} {c d k : Cse} {ks : List Cse} {R : List Rul}
theorem enR : enumTR (.tup (R.map rT)) = .ok (enumD 0 (R.map rT)) := rfl
theorem idx_ok (hl : R.length ≤ 1000) (b : Bool) : m_indexes_of (bookD S R) (.str (cond b tR tK)) = .ok (.lst (((ups 0 R.length).filter fun i => (R.getD i.toNat rD).2 == b).map emb)) := by
  have e : ∀ x : Bool, dEq (ansT x) (.str (cond b tR tK)) = some (.bl (x == b)) := fun x => by cases x <;> cases b <;> simp [ansT]
  have m := mFil_map (l := ups 0 R.length) (g := fun k => .tup [.int k, rT (R.getD k.toNat rD)]) (f := m_indexes_of_c1 (.str (cond b tR tK))) (h := (emb : Int → D)) (c := fun i => (R.getD i.toNat rD).2 == b) fun i _ => by
    have u : un2 (.tup [.int i, rT (R.getD i.toNat rD)]) = .ok (.int i, rT (R.getD i.toNat rD)) := rfl
    simp only [m_indexes_of_c1, u, rT_1, e, Res.bind_ok, optS, toB_bl]
    split <;> rfl
  have lg : lenG (enumD 0 (R.map rT)) = .ok () := by rw [enum_rT]; exact lenG_ok (by simp; omega)
  simp only [m_indexes_of, fld_rul, enR, Res.bind_ok, lg]
  rw [enum_rT, m]
  rfl
theorem first_ok (hl : R.length ≤ 1000) : m_first_cross (bookD S R) = .ok (oD pD (fc S R)) := by
  have k1 := idx_ok (S := S) (R := R) hl true
  have k2 := idx_ok (S := S) (R := R) hl false
  have k1 : m_indexes_of (bookD S R) (.str [114, 101, 109, 111, 118, 101]) = _ := k1
  have k2 : m_indexes_of (bookD S R) (.str [107, 101, 101, 112]) = _ := k2
  have rem : ∀ i j : Int, crB S R i j = true → (R.getD i.toNat rD).2 = true ∧ (R.getD j.toNat rD).2 = false := fun i j h => by
    unfold crB at h
    simp only [Bool.and_eq_true, Bool.not_eq_true'] at h
    exact ⟨h.1, h.2.1⟩
  have b1 : ∀ i ∈ (ups 0 R.length).filter (fun i => (R.getD i.toNat rD).2 == true), m_first_cross_b1 (bookD S R) (emb i) () = .ok (retO pD (fcr S R i)) := fun i hi => by
    have hi := mem_ups.mp (List.mem_filter.mp hi).1
    have w := forB_some (l := (ups 0 R.length).filter fun i => (R.getD i.toNat rD).2 == false) (g := (emb : Int → D)) (e := pD) (h := fun j => if crB S R i j = true then some (i, j) else none) (f := m_first_cross_b2 (bookD S R) (.int i)) fun j hj => by
      have hj := mem_ups.mp (List.mem_filter.mp hj).1
      simp only [m_first_cross_b2, emb_int, crosses_ok (S := S) (R := R) (i := i) (j := j) (by omega) (by omega) (by omega) (by omega), Res.bind_ok, truD_bl, optS]
      split <;> rfl
    rw [some_filter (fun j h => by
      by_cases hc : crB S R i j = true
      · show ((R.getD j.toNat rD).2 == false) = true
        rw [(rem i j hc).2]; rfl
      · rw [if_neg hc] at h; exact absurd rfl h)] at w
    have fe : (ups 0 R.length).findSome? (fun j => if crB S R i j = true then some (i, j) else none) = fcr S R i := by
      unfold fcr
      induction ups 0 R.length with
      | nil => rfl
      | cons x l ih =>
        rw [List.findSome?_cons, List.find?_cons]
        by_cases hc : crB S R i x = true
        · rw [if_pos hc, hc]; rfl
        · rw [if_neg hc, Bool.eq_false_iff.mpr hc]; exact ih
    rw [fe] at w
    simp only [m_first_cross_b1, k2, itD_lst, w, emb_int, Res.bind_ok, optS]
    cases fcr S R i <;> rfl
  have w := forB_some (l := (ups 0 R.length).filter fun i => (R.getD i.toNat rD).2 == true) (g := (emb : Int → D)) (e := pD) (h := fcr S R) (f := m_first_cross_b1 (bookD S R)) b1
  rw [some_filter (fun i h => by
    unfold fcr at h
    cases hf : (ups 0 R.length).find? fun j => crB S R i j with
    | none => rw [hf] at h; exact absurd rfl h
    | some j =>
      show ((R.getD i.toNat rD).2 == true) = true
      rw [(rem i j (List.find?_some hf)).1]; rfl)] at w
  have w : forB (((ups 0 R.length).filter fun i => (R.getD i.toNat rD).2 == true).map emb) () (m_first_cross_b1 (bookD S R)) = .ok (retO pD (fc S R)) := w
  simp only [m_first_cross, k1, itD_lst, w, Res.bind_ok, optS]
  cases fc S R <;> rfl
theorem lcross_ok (H : Hs n S) (hR : Rs n R) : m__law_cross (.str S) (.lst (R.map rT)) = .ok (oD pD (fc S R)) := by
  have rl := hR.l
  have rg := rngI_1 (j := (R.length : Nat)) (by omega) (by omega)
  rw [Int.toNat_natCast] at rg
  have b1 : ∀ i ∈ ups 0 R.length, m__law_cross_b1 (.str S) (.lst (R.map rT)) (emb i) () = .ok (retO pD (fcr S R i)) := fun i hi => by
    have hi := mem_ups.mp hi
    have w := forB_some (l := ups 0 R.length) (g := (emb : Int → D)) (e := pD) (h := fun j => if crB S R i j = true then some (i, j) else none) (f := m__law_cross_b2 (.str S) (.lst (R.map rT)) (.int i)) fun j hj => by
      have hj := mem_ups.mp hj
      have g := ge_ok H (hR.c _ (getR (R := R) (i := j.toNat) (by omega))) (hR.c _ (getR (R := R) (i := i.toNat) (by omega)))
      simp only [m__law_cross_b2, emb_int, ixRl (R := R) (i := i) (by omega) (by omega), ixRl (R := R) (i := j) (by omega) (by omega), rT_0, rT_1, ans_r, ans_k, g, optS, Res.bind_ok, toB_bl, truD_bl, ite_Bf, Bool.decide_eq_true]
      show (if crB S R i j = true then _ else _) = _
      split <;> rfl
    have fe : (ups 0 R.length).findSome? (fun j => if crB S R i j = true then some (i, j) else none) = fcr S R i := by
      unfold fcr
      induction ups 0 R.length with
      | nil => rfl
      | cons x l ih =>
        rw [List.findSome?_cons, List.find?_cons]
        by_cases hc : crB S R i x = true
        · rw [if_pos hc, hc]; rfl
        · rw [if_neg hc, Bool.eq_false_iff.mpr hc]; exact ih
    rw [fe] at w
    simp only [m__law_cross_b1, fLen_lst, List.length_map, rg, w, emb_int, Res.bind_ok, optS]
    cases fcr S R i <;> rfl
  have w := forB_some (l := ups 0 R.length) (g := (emb : Int → D)) (e := pD) (h := fcr S R) (f := m__law_cross_b1 (.str S) (.lst (R.map rT))) b1
  have w : forB ((ups 0 R.length).map emb) () (m__law_cross_b1 (.str S) (.lst (R.map rT))) = .ok (retO pD (fc S R)) := w
  simp only [m__law_cross, fLen_lst, List.length_map, rg, w, Res.bind_ok, optS]
  cases fc S R <;> rfl
theorem sound_ok (hl : R.length ≤ 1000) : m_check_sound (bookD S R) = match fc S R with | none => .ok .non | some p => .exn ⟨"Crossed", [("j", .int p.2), ("i", .int p.1)]⟩ := by
  simp only [m_check_sound, first_ok hl, Res.bind_ok]
  cases fc S R with
  | none => rfl
  | some p => rfl
end
end G_k06

set_option Elab.async false
set_option linter.all false
set_option maxRecDepth 100000
set_option maxHeartbeats 2000000
namespace G_k06
open PySem PySem.Spec PyProof.Rows L2 VL VL.Emb
section
variable {n : Nat} {S : List Nat} {c d k : Cse} {ks : List Cse} {R : List Rul}
theorem says_ok {r : Rul} : m_says (.str S) (rT r) (dT c) = .ok (.bl (saB S r c)) := by
  simp only [m_says, rT_u, ans_r, Res.bind_ok, optS, toB_bl, at_least_ok, saB]
  cases r.2 <;> rfl
theorem lsays_ok (H : Hs n S) {r : Rul} (hr : CaseOk n r.1) (hc : CaseOk n c) : m__law_says (.str S) (rT r) (dT c) = .ok (.bl (saB S r c)) := by
  simp only [m__law_says, rT_0, rT_1, ans_r, Res.bind_ok, optS, toB_bl, ge_ok H hr hc, ge_ok H hc hr, saB]
  cases r.2 <;> rfl
theorem two_some {p q : Bool} : (if p = true then (if q = true then (.ok (.ret (.bl true)) : Res (Stp Unit D)) else .ok (.next ())) else .ok (.next ())) = .ok (retO (fun _ : Unit => D.bl true) (if (p && q) = true then some () else none)) := by
  cases p <;> cases q <;> rfl
theorem pas_some {k : Int} : (ups 0 R.length).findSome? (fun j => if paB S R k j = true then some () else none) = if pasB S R k = true then some () else none := by
  unfold pasB
  induction ups 0 R.length with
  | nil => rfl
  | cons x l ih =>
    rw [List.findSome?_cons, List.any_cons]
    cases h : paB S R k x with
    | true => rfl
    | false => simpa using ih
theorem passed_ok {k : Int} (k0 : 0 ≤ k) (k1 : k < R.length) : m_is_passed (bookD S R) (.int k) = .ok (.bl (pasB S R k)) := by
  have eA : ∀ a b : Bool, dEq (ansT a) (ansT b) = some (.bl (a == b)) := fun a b => by cases a <;> cases b <;> simp [ansT]
  have w := forB_some (l := ups 0 R.length) (g := fun j => .tup [.int j, rT (R.getD j.toNat rD)]) (e := fun _ : Unit => D.bl true) (h := fun j => if paB S R k j = true then some () else none) (f := m_is_passed_b1 (bookD S R) (.int k) (dT (R.getD k.toNat rD).1) (ansT (R.getD k.toNat rD).2)) fun j hj => by
    have u : un2 (.tup [.int j, rT (R.getD j.toNat rD)]) = .ok (.int j, rT (R.getD j.toNat rD)) := rfl
    simp only [m_is_passed_b1, u, dNe_int, rT_0, rT_1, eA, fld_sides, says_ok, dNe_dT, dLt_int, Res.bind_ok, optS, toB_bl, truD_bl, ite_Bf, ite_tB, Bool.decide_eq_true, paB, bne]
    exact two_some
  rw [pas_some, ← enum_rT] at w
  simp only [m_is_passed, fld_rul, ixRt k0 k1, rT_u, enR, w, Res.bind_ok, optS]
  cases pasB S R k <;> rfl
theorem lpassed_ok (H : Hs n S) (hR : Rs n R) {k : Int} (k0 : 0 ≤ k) (k1 : k < R.length) : m__law_passed (.str S) (.lst (R.map rT)) (.int k) = .ok (.bl (pasB S R k)) := by
  have rl := hR.l
  have rg := rngI_1 (j := (R.length : Nat)) (by omega) (by omega)
  rw [Int.toNat_natCast] at rg
  have eA : ∀ a b : Bool, dEq (ansT a) (ansT b) = some (.bl (a == b)) := fun a b => by cases a <;> cases b <;> simp [ansT]
  have hk := hR.c _ (getR (R := R) (i := k.toNat) (by omega))
  have w := forB_some (l := ups 0 R.length) (g := (emb : Int → D)) (e := fun _ : Unit => D.bl true) (h := fun j => if paB S R k j = true then some () else none) (f := m__law_passed_b1 (.str S) (.lst (R.map rT)) (.int k)) fun j hj => by
    have hj := mem_ups.mp hj
    have hr := hR.c _ (getR (R := R) (i := j.toNat) (by omega))
    simp only [m__law_passed_b1, emb_int, dNe_int, ixRl (R := R) (i := j) (by omega) (by omega), ixRl k0 k1, rT_0, rT_1, eA, lsays_ok H hr hk, dNe_dT, dLt_int, Res.bind_ok, optS, toB_bl, truD_bl, ite_Bf, ite_tB, Bool.decide_eq_true, paB, bne]
    exact two_some
  rw [pas_some] at w
  simp only [m__law_passed, fLen_lst, List.length_map, rg, w, Res.bind_ok, optS]
  cases pasB S R k <;> rfl
end
end G_k06

set_option Elab.async false
set_option linter.all false
set_option maxRecDepth 100000
set_option maxHeartbeats 2000000
namespace G_k06
open PySem PySem.Spec PyProof.Rows L2 VL VL.Emb
section
variable {n : Nat} {S : List Nat} {c d k : Cse} {ks : List Cse} {R : List Rul}
theorem least_ok (H : Hs n S) (hR : Rs n R) : m_least_book (bookD S R) = match fc S R with | none => .ok (bookD S (kept S R)) | some p => .exn ⟨"Crossed", [("j", .int p.2), ("i", .int p.1)]⟩ := by
  have rl := hR.l
  have m := mFil_map (l := ups 0 R.length) (g := fun k => .tup [.int k, rT (R.getD k.toNat rD)]) (f := m_least_book_c1 (bookD S R)) (h := fun k => rT (R.getD k.toNat rD)) (c := fun k => !pasB S R k) fun k hk => by
    have hk := mem_ups.mp hk
    have u : un2 (.tup [.int k, rT (R.getD k.toNat rD)]) = .ok (.int k, rT (R.getD k.toNat rD)) := rfl
    simp only [m_least_book_c1, u, passed_ok (S := S) (R := R) (k := k) (by omega) (by omega), Res.bind_ok, truD_bl, optS]
    split <;> rfl
  rw [← enum_rT] at m
  have lg : lenG (enumD 0 (R.map rT)) = .ok () := by rw [enum_rT]; exact lenG_ok (by simp; omega)
  have mk := make_ok H (kept_rs (S := S) hR)
  rw [show (kept S R).map rT = ((ups 0 R.length).filter fun k => !pasB S R k).map fun k => rT (R.getD k.toNat rD) by rw [kept, List.map_map]; rfl] at mk
  simp only [m_least_book, sound_ok (S := S) (R := R) (by omega)]
  cases fc S R with
  | some p => rfl
  | none => simp only [Res.bind_ok, fld_rul, fld_sides, enR, lg, m, mk, mkR_ok]
end
end G_k06

set_option Elab.async false
set_option linter.all false
set_option maxRecDepth 100000
set_option maxHeartbeats 2000000
namespace G_k06
open PySem PySem.Spec PyProof.Rows L2 VL VL.Emb
section
variable {n : Nat} {S : List Nat} {c d k : Cse} {ks : List Cse} {R : List Rul}
theorem clamp (x : Int) : ∃ m g : Int, fMin2 [.int 3, .int x] = some (.int m) ∧ fMax2 [.int 0, .int m] = some (.int g) ∧ 0 ≤ g ∧ g < 4 := by
  refine ⟨_, _, rfl, rfl, ?_, ?_⟩
  · repeat' split
    all_goals omega
  · repeat' split
    all_goals omega
theorem ins_rT {R : List Rul} {p : Int} {r : Rul} (h : R.length < 16777216) (p0 : 0 ≤ p) (p1 : p ≤ 16777216) : mInsert (R.map rT) [.int p, .tup [dT r.1, ansT r.2]] = some ((R.take p.toNat ++ [r] ++ R.drop p.toNat).map rT, .non) := by
  show (if (R.map rT).length < 16777216 ∧ 0 ≤ p ∧ p ≤ 16777216 then _ else none) = _
  rw [if_pos ⟨by simpa using h, p0, p1⟩, List.map_append, List.map_append, List.map_take, List.map_drop]; rfl
theorem more_ok (H : Hs n S) (hR : Rs n R) {f : D} (hf : Feed f) : Post (m__law_more f (.str S) (.lst (R.map rT))) (fun r => ∃ R : List Rul, r.1 = .lst (R.map rT) ∧ Rs n R ∧ Feed r.2) := by
  have fl : fList [.lst (R.map rT)] = some (.lst (R.map rT)) := rfl
  have sl := H.l
  have n1 := H.n1
  have n5 := H.n5
  unfold m__law_more
  refine Post.noexn ?_
  simp only [fl, optS, Res.bind_ok]
  refine Post.draw hf (by omega) (by omega) fun q f1 h1 q0 q1 => ?_
  have rg := rngI_1 (j := q) (by omega) (by omega)
  simp only [rg, optS, Res.bind_ok]
  refine Post.bind (post_forN (I := fun ds (s : D × D) => ∃ (R : List Rul) (f : D), s = (f, .lst (R.map rT)) ∧ Feed f ∧ Rs n R) ?_ ⟨R, f1, rfl, h1, hR⟩) ?_
  · rintro d ds s ⟨R, f, rfl, hf, hR⟩
    have rl := hR.l
    unfold m__law_more_b1
    simp only [fLen_lst, List.length_map, dLt_int, optS, Res.bind_ok, toB_bl, ite_Df, Bool.decide_eq_true]
    refine Post.ite (fun h0 => ?_) fun _ => Post.ok ⟨R, f, rfl, hf, hR⟩
    rw [Bool.and_eq_true, decide_eq_true_eq, decide_eq_true_eq] at h0
    refine Post.draw hf (by omega) (by omega) fun i f2 h2 i0 i1 => ?_
    have hr := hR.c _ (getR (R := R) (i := i.toNat) (by omega))
    obtain ⟨⟨cc, b⟩, er⟩ : ∃ r, r = R.getD i.toNat rD := ⟨_, rfl⟩
    rw [← er] at hr
    have hr : CaseOk n cc := hr
    have ln : fLen [.str S] = some (.int (n : Nat)) := by rw [fLen_str (by omega), sl]
    simp only [ixRl i0 i1, ← er, rT_u, ln, optS, Res.bind_ok]
    refine Post.draw h2 (by omega) (by omega) fun a f3 h3 a0 a1 => ?_
    refine Post.draw h3 (by omega) (by omega) fun t f4 h4 t0 t1 => ?_
    have cl := hr.l
    have st : ∃ z : Int, dIx (.lst [.int 1, .int (-1), .int 0]) (.int t) = some (.int z) := by
      have : t = 0 ∨ t = 1 ∨ t = 2 := by omega
      rcases this with rfl | rfl | rfl <;> exact ⟨_, rfl⟩
    obtain ⟨z, st⟩ := st
    have e0 : dIx (dT cc) (.int a) = some (.int (cc.getD a.toNat 0)) := ixT a0 (by omega)
    obtain ⟨m, g, em, eg, g0, g1⟩ := clamp (cc.getD a.toNat 0 + z)
    simp only [st, e0, dAdd_int, em, eg, toL_lst, fLen_lst, List.length_map, optS, Res.bind_ok]
    refine Post.draw h4 (by omega) (by omega) fun p f5 h5 p0 p1 => ?_
    have s1 : dSlice (dT cc) none (some a) = some (dT (cc.take a.toNat)) := by rw [sl_tup, cut_to a0]
    have s2 : dSlice (dT cc) (some (a + 1)) none = some (dT (cc.drop (a + 1).toNat)) := by rw [sl_tup, cut_from (by omega)]
    have a1' : dAdd (dT (cc.take a.toNat)) (.tup [.int g]) = some (dT (cc.take a.toNat ++ [g])) := ad_tup (b := [g]) (by simp; omega)
    have a2 := ad_tup (a := cc.take a.toNat ++ [g]) (b := cc.drop (a + 1).toNat) (by simp; omega)
    have ins := ins_rT (R := R) (p := p) (r := (cc.take a.toNat ++ [g] ++ cc.drop (a + 1).toNat, b)) (by omega) p0 (by omega)
    simp only [toI_int, s1, s2, a1', a2, ins, optS, Res.bind_ok]
    refine Post.ok ⟨_, f5, rfl, h5, ⟨fun x hx => ?_, ?_⟩⟩
    · rcases List.mem_append.mp hx with hx | hx
      · rcases List.mem_append.mp hx with hx | hx
        · exact hR.c x (List.mem_of_mem_take hx)
        · rw [List.mem_singleton.mp hx]
          refine ⟨by simp; omega, fun y hy => ?_⟩
          rcases List.mem_append.mp hy with hy | hy
          · rcases List.mem_append.mp hy with hy | hy
            · exact hr.r y (List.mem_of_mem_take hy)
            · rw [List.mem_singleton.mp hy]; omega
          · exact hr.r y (List.mem_of_mem_drop hy)
      · exact hR.c x (List.mem_of_mem_drop hx)
    · simp only [List.length_append, List.length_take, List.length_drop, List.length_singleton]; omega
  · rintro _ ⟨R, f, rfl, hf, hR⟩
    exact Post.ok ⟨R, rfl, hR, hf⟩
/-! what is bound, for a list of cases -/
def bdD (S : List Nat) (R : List Rul) (E : List Cse) : List (List Txt) := E.map fun c => (bdB S R c).map ansX
theorem bound_ok (H : Hs n S) (hR : ∀ r ∈ R, CaseOk n r.1) (rl : R.length ≤ 1000) {E : List Cse} (hE : ∀ c ∈ E, CaseOk n c) (hl : E.length ≤ 1000) : m__law_bound (.str S) (.lst (R.map rT)) (cs E) = .ok (emb (bdD S R E)) := by
  have w := forN_app (l := E) (F := ([] : List (List Txt))) (g := dT) (c := fun _ => true) (h := fun c => (bdB S R c).map ansX) (f := m__law_bound_b1 (.str S) (.lst (R.map rT))) (by simp; omega) fun c hc F hF => by
    have m := mFil_map (l := R) (g := rT) (f := m__law_bound_c2 (.str S) (dT c)) (h := fun r => ansT r.2) (c := fun r => saB S r c) fun r hr => by
      simp only [m__law_bound_c2, lsays_ok H (hR r hr) (hE c hc), Res.bind_ok, truD_bl, optS, rT_1]
      split <;> rfl
    have s1 : dSlice (.lst ((R.filter fun r => saB S r c).map fun r => ansT r.2)) none (some 1) = some (emb ((bdB S R c).map ansX)) := by
      rw [dSlice_lst, cut_to (by omega), bdB]
      show some (D.lst _) = some (D.lst _)
      rw [List.map_take, List.map_take, List.map_map, List.map_map]; rfl
    have ap := mAppend_emb (a := F) (x := (bdB S R c).map ansX) rfl hF
    have lg : lenG (R.map rT) = .ok () := lenG_ok (by simp; omega)
    simp only [m__law_bound_b1, itD_lst, lg, m, s1, ap, toL_lst, optS, Res.bind_ok, if_true]
  have w : forN (E.map dT) (.lst []) (m__law_bound_b1 (.str S) (.lst (R.map rT))) = .ok (.lst ((bdD S R E).map emb)) := by
    rw [List.filter_eq_self.mpr (by simp), List.nil_append] at w
    exact w
  simp only [m__law_bound, itD_lst, w, optS, Res.bind_ok, noexn_ok]
  rfl
theorem bdD_ok {E : List Cse} : EmbEq.ok (bdD S R E) := fun y hy z hz => by
  obtain ⟨c, _, rfl⟩ := List.mem_map.mp hy
  obtain ⟨b, _, rfl⟩ := List.mem_map.mp hz
  exact ansX_ok b
theorem bd_ne {R1 R2 : List Rul} {E : List Cse} : dNe (emb (bdD S R1 E)) (emb (bdD S R2 E)) = some (.bl (!decide (bdD S R1 E = bdD S R2 E))) := dNe_emb (by decide) bdD_ok bdD_ok
theorem bd_eq {R1 R2 : List Rul} {E : List Cse} : dEq (emb (bdD S R1 E)) (emb (bdD S R2 E)) = some (.bl (decide (bdD S R1 E = bdD S R2 E))) := dEq_emb (by decide) bdD_ok bdD_ok
theorem law_b2 {F : List Cse} (hF : F.length ≤ 100000) (hc : c.length ≤ 1000) : m__law_cases_b2 (dT c) (cs F) = .ok (cs (F ++ [c ++ [0], c ++ [1], c ++ [2], c ++ [3]])) := by
  have a : ∀ g : Int, m__law_cases_c3 (dT c) (.int g) = .ok (dT (c ++ [g])) := fun g => by
    have : dAdd (dT c) (.tup [.int g]) = some (dT (c ++ [g])) := by
      show dAdd (.tup (c.map D.int)) (.tup [.int g]) = _
      rw [dAdd_tup (by simp; omega)]; simp [dT]
    simp only [m__law_cases_c3, this, optS, Res.bind_ok]
  have m := mMap_map (l := ([0, 1, 2, 3] : List Int)) (g := D.int) (f := m__law_cases_c3 (dT c)) (h := fun g => dT (c ++ [g])) fun g _ => a g
  have m : mMap [.int 0, .int 1, .int 2, .int 3] (m__law_cases_c3 (dT c)) = .ok ([c ++ [0], c ++ [1], c ++ [2], c ++ [3]].map dT) := m
  have ad : dAdd (cs F) (.lst ([c ++ [0], c ++ [1], c ++ [2], c ++ [3]].map dT)) = some (cs (F ++ [c ++ [0], c ++ [1], c ++ [2], c ++ [3]])) := by
    show dAdd (.lst (F.map dT)) _ = _
    rw [dAdd_lst (by simp; omega), cs, List.map_append]
  have lg : lenG ([.int 0, .int 1, .int 2, .int 3] : List D) = .ok () := rfl
  simp only [m__law_cases_b2, itD_lst, optS, Res.bind_ok, lg, m, ad]
theorem law_b1' : ∀ (l F : List Cse), (∀ c ∈ l, c.length ≤ 1000) → F.length + 4 * l.length ≤ 10000 → forN (l.map dT) (cs F) m__law_cases_b2 = .ok (cs (F ++ longer l))
  | [], F, _, _ => by simp [longer]
  | c :: l, F, hl, h => by
    simp only [List.length_cons] at h
    rw [List.map_cons, forN_cons, law_b2 (by omega) (hl c List.mem_cons_self), Res.bind_ok, law_b1' l _ (fun y hy => hl y (List.mem_cons_of_mem _ hy)) (by simp; omega)]
    simp [longer]
theorem law_cases_ok (H : Hs n S) : m__law_cases (.str S) = .ok (cs (allC n)) := by
  have n5 := H.n5
  have key : ∀ (T : List Nat) (m : Nat), m + T.length ≤ 5 → forN (T.map fun c => D.str [c]) (cs (allC m)) m__law_cases_b1 = .ok (cs (allC (m + T.length))) := by
    intro T
    induction T with
    | nil => intro m _; rfl
    | cons t T ih =>
      intro m hm
      simp only [List.length_cons] at hm
      have pw : 4 ^ m ≤ 256 := Nat.le_trans (Nat.pow_le_pow_right (by omega) (by omega : m ≤ 4)) (by decide)
      have b := law_b1' (allC m) [] (fun c hc => by rw [(mem_allC.mp hc).l]; omega) (by rw [allC_len]; simp; omega)
      have b : forN ((allC m).map dT) (.lst []) m__law_cases_b2 = .ok (cs (allC (m + 1))) := b
      have e : m__law_cases_b1 (.str [t]) (cs (allC m)) = .ok (cs (allC (m + 1))) := by
        simp only [m__law_cases_b1, itD_lst, optS, Res.bind_ok, b]
      rw [List.map_cons, forN_cons, e, Res.bind_ok, ih (m + 1) (by omega), List.length_cons, show m + 1 + T.length = m + (T.length + 1) by omega]
  have w := key S 0 (by rw [H.l]; omega)
  rw [H.l, Nat.zero_add] at w
  have w : forN (S.map fun c => D.str [c]) (.lst [.tup []]) m__law_cases_b1 = .ok (cs (allC n)) := w
  simp only [m__law_cases, itD_str, optS, Res.bind_ok, w, noexn_ok]
end
end G_k06

set_option Elab.async false
set_option linter.all false
set_option maxRecDepth 100000
set_option maxHeartbeats 2000000
namespace G_k06
open PySem PySem.Spec PyProof.Rows L2 VL VL.Emb
theorem isB {S : List Nat} {R : List Rul} : fIsO [("Book", true)] [bookD S R, .non] = some (.bl true) := by
  show (lookO "Book" [("Book", true)]).map D.bl = _
  simp [lookO]
theorem list_tup {l : List D} : fList [.tup l] = some (.lst l) := rfl
theorem exI_ {p : Int × Int} : exF ["Crossed"] "i" (.exc "Crossed" [("j", .int p.2), ("i", .int p.1)]) = .ok (.int p.1) := by
  show (if (["Crossed"] : List String).contains "Crossed" = true then opt (lookF "i" [("j", .int p.2), ("i", .int p.1)]) else .bad) = _
  rw [if_pos (by decide), lookF, if_neg (show ¬ (Str.ofString "j" == Str.ofString "i") = true by decide), lookF, if_pos (show (Str.ofString "i" == Str.ofString "i") = true by decide)]; rfl
theorem exJ_ {p : Int × Int} : exF ["Crossed"] "j" (.exc "Crossed" [("j", .int p.2), ("i", .int p.1)]) = .ok (.int p.2) := by
  show (if (["Crossed"] : List String).contains "Crossed" = true then opt (lookF "j" [("j", .int p.2), ("i", .int p.1)]) else .bad) = _
  rw [if_pos (by decide), lookF, if_pos (show (Str.ofString "j" == Str.ofString "j") = true by decide)]; rfl
theorem ctC : (["Crossed"] : List String).contains "Crossed" = true := by decide
section
variable {n : Nat} {S : List Nat} {c d k : Cse} {ks : List Cse} {R : List Rul}
theorem due_ok (H : Hs n S) (hR : Rs n R) : mFil ((ups 0 R.length).map emb) (m__law_asks_c1 (.str S) (.lst (R.map rT))) = .ok ((kept S R).map rT) := by
  have m := mFil_map (l := ups 0 R.length) (g := (emb : Int → D)) (f := m__law_asks_c1 (.str S) (.lst (R.map rT))) (h := fun k => rT (R.getD k.toNat rD)) (c := fun k => !pasB S R k) fun k hk => by
    have hk := mem_ups.mp hk
    simp only [m__law_asks_c1, emb_int, lpassed_ok H hR (k := k) (by omega) (by omega), ixRl (R := R) (i := k) (by omega) (by omega), Res.bind_ok, truD_bl, optS]
    split <;> rfl
  rw [m, kept, List.map_map]; rfl
theorem b3_ok (H : Hs n S) (hR : Rs n R) (n3 : n ≤ 3) (h : Snd S R) {k : Int} (k0 : 0 ≤ k) (k1 : k < (kept S R).length) : m__law_asks_b3 (.str S) (.lst ((kept S R).map rT)) (cs (allC n)) (emb (bdD S R (allC n))) (.int k) () = .ok (.next ()) := by
  have kr := kept_rs (S := S) hR
  have kl := kr.l
  have pw : 4 ^ n ≤ 64 := Nat.le_trans (Nat.pow_le_pow_right (by omega) n3) (by decide)
  have s1 : dSlice (.lst ((kept S R).map rT)) none (some k) = some (.lst (((kept S R).take k.toNat).map rT)) := by rw [dSlice_lst, cut_map, cut_to k0]
  have s2 : dSlice (.lst ((kept S R).map rT)) (some (k + 1)) none = some (.lst (((kept S R).drop (k.toNat + 1)).map rT)) := by
    rw [dSlice_lst, cut_map, cut_from (by omega), show (k + 1).toNat = k.toNat + 1 by omega]
  have ad : dAdd (.lst (((kept S R).take k.toNat).map rT)) (.lst (((kept S R).drop (k.toNat + 1)).map rT)) = some (.lst (((kept S R).take k.toNat ++ (kept S R).drop (k.toNat + 1)).map rT)) := by
    rw [dAdd_lst (by simp; omega), List.map_append]
  have b := bound_ok (R := (kept S R).take k.toNat ++ (kept S R).drop (k.toNat + 1)) (E := allC n) H (fun r hr => by
    rcases List.mem_append.mp hr with z | z
    · exact kr.c r (List.mem_of_mem_take z)
    · exact kr.c r (List.mem_of_mem_drop z)) (by simp; omega) (fun c hc => mem_allC.mp hc) (by rw [allC_len]; omega)
  have ne : ¬ bdD S ((kept S R).take k.toNat ++ (kept S R).drop (k.toNat + 1)) (allC n) = bdD S R (allC n) := fun e => by
    obtain ⟨a1, a2⟩ := kept_need H hR.c h k0 k1
    have m := kr.c _ (getR (R := kept S R) (i := k.toNat) (by omega))
    have := List.map_inj_left.mp e _ (mem_allC.mpr m)
    have := map_inj (fun _ _ => ansX_inj.mp) this
    exact a2 (this.symm.trans a1)
  simp only [m__law_asks_b3, toI_int, s1, dAdd_int, s2, ad, b, bd_eq, ne, decide_false, optS, Res.bind_ok, toB_bl, Bool.false_eq_true, if_false]
theorem asks_ok (H : Hs n S) (hR : Rs n R) : m__law_asks (.str S) (.lst (R.map rT)) = .ok (.bl true) := by
  have rl := hR.l
  have n5 := H.n5
  cases hfc : fc S R with
  | some p =>
    have e1 : dNotN (oD pD (some p)) .non = some (.bl true) := rfl
    have e2 : dEq (.tup [.int p.1, .int p.2]) (oD pD (some p)) = some (.bl true) := dEq_self (α := Int × Int) (a := p) (by decide) ⟨trivial, trivial⟩
    simp only [m__law_asks, make_ok H hR, mkR_ok, lcross_ok H hR, least_ok H hR, hfc, Res.bind_ok, Res.bind_exn, tryM_exn, ctC, exI_, exJ_, e1, e2, optS, toB_bl, if_true, nc_bl, aftF_ret]
  | none =>
    have hs := fc_none.mp hfc
    have kr := kept_rs (S := S) hR
    have kl := kr.l
    have hk : fc S (kept S R) = none := fc_none.mpr (hs.sub fun r hr => kept_sub hr)
    have lk := least_ok H kr
    rw [hk, kept_kept H hR.c] at lk
    have lo := least_ok H hR
    rw [hfc] at lo
    have rg := rngI_1 (j := (R.length : Nat)) (by omega) (by omega)
    rw [Int.toNat_natCast] at rg
    have rg2 := rngI_1 (j := ((kept S R).length : Nat)) (by omega) (by omega)
    rw [Int.toNat_natCast] at rg2
    have lg : lenG ((ups 0 R.length).map (emb : Int → D)) = .ok () := lenG_ok (by simp; omega)
    have e1 : dNotN (oD pD (none : Option (Int × Int))) .non = some (.bl false) := rfl
    have ln : fLen [.str S] = some (.int (n : Nat)) := by rw [fLen_str (by rw [H.l]; omega), H.l]
    have ns : dNe (.str S) (.str S) = some (.bl false) := by simp
    have nr : ∀ A : List Rul, dNe (.lst (A.map rT)) (.lst (A.map rT)) = some (.bl false) := fun A => by rw [dNe_rTs]; simp
    simp only [m__law_asks, make_ok H hR, mkR_ok, lcross_ok H hR, lo, hfc, Res.bind_ok, tryM_ok, aftF_next, fLen_lst, List.length_map, rg, lg, due_ok H hR, e1, isB, fld_sides, fld_rul, list_tup, ns, nr, lk, ln, dLt_int, optS, toB_bl, truD_bl, Bool.not_true, Bool.false_eq_true, if_false]
    by_cases n3 : n < 4
    · have pw : 4 ^ n ≤ 64 := Nat.le_trans (Nat.pow_le_pow_right (by omega) (show n ≤ 3 by omega)) (by decide)
      have hE : ∀ c ∈ allC n, CaseOk n c := fun c hc => mem_allC.mp hc
      have b1 := bound_ok (R := R) (E := allC n) H hR.c (by omega) hE (by rw [allC_len]; omega)
      have b2 := bound_ok (R := kept S R) (E := allC n) H kr.c (by omega) hE (by rw [allC_len]; omega)
      have eq : bdD S (kept S R) (allC n) = bdD S R (allC n) := List.map_congr_left fun c hc => by rw [kept_bd H hR.c hs (hE c hc)]
      have d1 : decide ((n : Int) < 4) = true := decide_eq_true (by omega)
      have w := forB_next (l := ups 0 (kept S R).length) (g := (emb : Int → D)) (f := m__law_asks_b3 (.str S) (.lst ((kept S R).map rT)) (cs (allC n)) (emb (bdD S R (allC n)))) (s := ()) fun k hk => by
        have hk := mem_ups.mp hk
        exact b3_ok H hR (by omega) hs (by omega) (by omega)
      simp only [d1, if_true, law_cases_ok H, b1, b2, bd_ne, eq, decide_true, Bool.not_true, rg2, w, optS, Res.bind_ok, toB_bl, Bool.false_eq_true, if_false, aftF_next, m__law_asks_j2]
    · have d1 : decide ((n : Int) < 4) = false := decide_eq_false (by omega)
      simp only [d1, Bool.false_eq_true, if_false, m__law_asks_j2]
end
theorem law_b {F d : D} (hF : Feed F) : Post (m_law_b1 d F) Nx := by
  unfold m_law_b1
  rw [hF.cell, ckB_true, Res.bind_ok]
  refine Post.bind (book_ok hF) ?_
  rintro ⟨_, f1⟩ ⟨n, S, R, rfl, H, hR, h1⟩
  have h1 : Feed f1 := h1
  simp only [un2_tup, Res.bind_ok]
  rw [h1.cell, ckB_true, Res.bind_ok]
  refine Post.bind (more_ok H hR h1) ?_
  rintro ⟨_, f2⟩ ⟨R2, rfl, hR2, h2⟩
  have h2 : Feed f2 := h2
  simp only [asks_ok H hR2, Res.bind_ok, truD_bl, optS, Bool.not_true, Bool.false_eq_true, if_false]
  exact Post.ok ⟨f2, rfl, h2⟩
theorem law_ok (ns : List Int) : Post (m_law (.scr ns)) (fun d => d = .bl true) := by
  unfold m_law
  have rg := rngI_1 (j := 2) (by omega) (by omega)
  simp only [feed_ok, rg, optS, Res.bind_ok]
  refine Post.bind (P := Nx) (post_forB (I := fun ds s => Feed s) (B := Nx) (fun d ds f hf => ?_) (fun f hf => ⟨f, rfl, hf⟩) (feed0 ns)) ?_
  · refine (law_b hf).imp fun r hr => ?_
    obtain ⟨s', rfl, h⟩ := hr
    exact h
  · rintro _ ⟨F, rfl, hF⟩
    have H : Hs 2 [43, 45] := ⟨by omega, by omega, rfl, by simp⟩
    have hR : Rs 2 [([2, 1], true), ([1, 1], true), ([1, 1], true), ([0, 2], false)] := ⟨fun r hr => by
      simp only [List.mem_cons, List.not_mem_nil, or_false] at hr
      rcases hr with rfl | rfl | rfl | rfl <;> exact ⟨rfl, by simp⟩, by simp⟩
    have mk := make_ok H hR
    have lb := least_ok H hR
    rw [show fc [43, 45] [([2, 1], true), ([1, 1], true), ([1, 1], true), ([0, 2], false)] = none by decide +kernel] at lb
    have ke : kept [43, 45] [([2, 1], true), ([1, 1], true), ([1, 1], true), ([0, 2], false)] = [([1, 1], true), ([0, 2], false)] := by decide +kernel
    simp only [aftF_next]
    have q : ∀ (L K : List D), L = ([([2, 1], true), ([1, 1], true), ([1, 1], true), ([0, 2], false)] : List Rul).map rT → K = ([([1, 1], true), ([0, 2], false)] : List Rul).map rT → Post ((m_Book (.obj "Book" []) (.str [43, 45]) (.lst L)).bind fun r9 => (mkR r9.1 [r9.2]).bind fun t10 => (m_least_book t10).bind fun t11 => (fldR ["Book"] "rulings" t11).bind fun t12 => (opt (fList [t12])).bind fun t13 => (opt (dEq t13 (.lst K))).bind fun t14 => (.ok t14 : Res D)) (fun d => d = .bl true) := by
      rintro _ _ rfl rfl
      rw [ke] at lb
      simp only [mk, mkR_ok, lb, fld_rul, list_tup, dEq_rTs, optS, Res.bind_ok, decide_true]
      exact Post.ok rfl
    exact q _ _ rfl rfl
theorem law_true (ns : List Int) (h : ns.length ≤ 63) : ∃ os, v_law [.scr ns] = .ok (.bl true, os) := by
  obtain ⟨d, e, rfl⟩ := law_ok ns
  obtain ⟨q, e2, e3⟩ := (e_law (.scr ns)).to e
  exact ⟨[], by rw [e2, e3]⟩
end G_k06

namespace G_k06
open PySem PySem.Spec PyProof.Rows L2 VL
theorem all_mk {l : PySem.W.OpenLaw} {w : World} {K : PySem.W.Frag} {h : Heap} {mg : Str → Option Value} {fa : Addr} (X : K.In h) (G : h.Ns mainGlobals mg) (hfa : mg "law" = some (.ref fa))
    {f0 : Addr} {od0 an0 : Option Addr} {sl0 : Array (Option Value)} {oc0 kV0 dc0 pm0 cd0 ct0 : Value} (a0 : PySem.W.nsIn K mainGlobals "is_whole" = some (some (.ref f0))) (l0 : K.lookup f0 = some ⟨oc0, od0, .func (PySem.W.fnOf "is_whole" "is_whole" (defArgs s_is_whole) (defBody s_is_whole) (defScope s_is_whole) .none kV0 dc0 pm0 an0 cd0 ct0), sl0⟩) (c0 : PySem.W.codeIn K cd0 "is_whole" = true) (k0 : PySem.W.keepIn K (.ref f0) = true)
    {f1 : Addr} {od1 an1 : Option Addr} {sl1 : Array (Option Value)} {oc1 kV1 dc1 pm1 cd1 ct1 : Value} (a1 : PySem.W.nsIn K mainGlobals "is_answer" = some (some (.ref f1))) (l1 : K.lookup f1 = some ⟨oc1, od1, .func (PySem.W.fnOf "is_answer" "is_answer" (defArgs s_is_answer) (defBody s_is_answer) (defScope s_is_answer) .none kV1 dc1 pm1 an1 cd1 ct1), sl1⟩) (c1 : PySem.W.codeIn K cd1 "is_answer" = true) (k1 : PySem.W.keepIn K (.ref f1) = true)
    {f2 : Addr} {od2 an2 : Option Addr} {sl2 : Array (Option Value)} {oc2 kV2 dc2 pm2 cd2 ct2 : Value} (a2 : PySem.W.nsIn K mainGlobals "check_sides" = some (some (.ref f2))) (l2 : K.lookup f2 = some ⟨oc2, od2, .func (PySem.W.fnOf "check_sides" "check_sides" (defArgs s_check_sides) (defBody s_check_sides) (defScope s_check_sides) .none kV2 dc2 pm2 an2 cd2 ct2), sl2⟩) (c2 : PySem.W.codeIn K cd2 "check_sides" = true) (k2 : PySem.W.keepIn K (.ref f2) = true)
    {f3 : Addr} {od3 an3 : Option Addr} {sl3 : Array (Option Value)} {oc3 kV3 dc3 pm3 cd3 ct3 : Value} (a3 : PySem.W.nsIn K mainGlobals "is_case" = some (some (.ref f3))) (l3 : K.lookup f3 = some ⟨oc3, od3, .func (PySem.W.fnOf "is_case" "is_case" (defArgs s_is_case) (defBody s_is_case) (defScope s_is_case) .none kV3 dc3 pm3 an3 cd3 ct3), sl3⟩) (c3 : PySem.W.codeIn K cd3 "is_case" = true) (k3 : PySem.W.keepIn K (.ref f3) = true)
    {f4 : Addr} {od4 an4 : Option Addr} {sl4 : Array (Option Value)} {oc4 kV4 dc4 pm4 cd4 ct4 : Value} (a4 : PySem.W.nsIn K mainGlobals "at_least" = some (some (.ref f4))) (l4 : K.lookup f4 = some ⟨oc4, od4, .func (PySem.W.fnOf "at_least" "at_least" (defArgs s_at_least) (defBody s_at_least) (defScope s_at_least) .none kV4 dc4 pm4 an4 cd4 ct4), sl4⟩) (c4 : PySem.W.codeIn K cd4 "at_least" = true) (k4 : PySem.W.keepIn K (.ref f4) = true)
    {f5 : Addr} {od5 an5 : Option Addr} {sl5 : Array (Option Value)} {oc5 kV5 dc5 pm5 cd5 ct5 : Value} (a5 : PySem.W.nsIn K mainGlobals "is_ruling" = some (some (.ref f5))) (l5 : K.lookup f5 = some ⟨oc5, od5, .func (PySem.W.fnOf "is_ruling" "is_ruling" (defArgs s_is_ruling) (defBody s_is_ruling) (defScope s_is_ruling) .none kV5 dc5 pm5 an5 cd5 ct5), sl5⟩) (c5 : PySem.W.codeIn K cd5 "is_ruling" = true) (k5 : PySem.W.keepIn K (.ref f5) = true)
    {f6 : Addr} {od6 an6 : Option Addr} {sl6 : Array (Option Value)} {oc6 kV6 dc6 pm6 cd6 ct6 : Value} (a6 : PySem.W.nsIn K mainGlobals "indexes_of" = some (some (.ref f6))) (l6 : K.lookup f6 = some ⟨oc6, od6, .func (PySem.W.fnOf "indexes_of" "indexes_of" (defArgs s_indexes_of) (defBody s_indexes_of) (defScope s_indexes_of) .none kV6 dc6 pm6 an6 cd6 ct6), sl6⟩) (c6 : PySem.W.codeIn K cd6 "indexes_of" = true) (k6 : PySem.W.keepIn K (.ref f6) = true)
    {f7 : Addr} {od7 an7 : Option Addr} {sl7 : Array (Option Value)} {oc7 kV7 dc7 pm7 cd7 ct7 : Value} (a7 : PySem.W.nsIn K mainGlobals "crosses" = some (some (.ref f7))) (l7 : K.lookup f7 = some ⟨oc7, od7, .func (PySem.W.fnOf "crosses" "crosses" (defArgs s_crosses) (defBody s_crosses) (defScope s_crosses) .none kV7 dc7 pm7 an7 cd7 ct7), sl7⟩) (c7 : PySem.W.codeIn K cd7 "crosses" = true) (k7 : PySem.W.keepIn K (.ref f7) = true)
    {f8 : Addr} {od8 an8 : Option Addr} {sl8 : Array (Option Value)} {oc8 kV8 dc8 pm8 cd8 ct8 : Value} (a8 : PySem.W.nsIn K mainGlobals "first_cross" = some (some (.ref f8))) (l8 : K.lookup f8 = some ⟨oc8, od8, .func (PySem.W.fnOf "first_cross" "first_cross" (defArgs s_first_cross) (defBody s_first_cross) (defScope s_first_cross) .none kV8 dc8 pm8 an8 cd8 ct8), sl8⟩) (c8 : PySem.W.codeIn K cd8 "first_cross" = true) (k8 : PySem.W.keepIn K (.ref f8) = true)
    {f9 : Addr} {od9 an9 : Option Addr} {sl9 : Array (Option Value)} {oc9 kV9 dc9 pm9 cd9 ct9 : Value} (a9 : PySem.W.nsIn K mainGlobals "check_sound" = some (some (.ref f9))) (l9 : K.lookup f9 = some ⟨oc9, od9, .func (PySem.W.fnOf "check_sound" "check_sound" (defArgs s_check_sound) (defBody s_check_sound) (defScope s_check_sound) .none kV9 dc9 pm9 an9 cd9 ct9), sl9⟩) (c9 : PySem.W.codeIn K cd9 "check_sound" = true) (k9 : PySem.W.keepIn K (.ref f9) = true)
    {f10 : Addr} {od10 an10 : Option Addr} {sl10 : Array (Option Value)} {oc10 kV10 dc10 pm10 cd10 ct10 : Value} (a10 : PySem.W.nsIn K mainGlobals "says" = some (some (.ref f10))) (l10 : K.lookup f10 = some ⟨oc10, od10, .func (PySem.W.fnOf "says" "says" (defArgs s_says) (defBody s_says) (defScope s_says) .none kV10 dc10 pm10 an10 cd10 ct10), sl10⟩) (c10 : PySem.W.codeIn K cd10 "says" = true) (k10 : PySem.W.keepIn K (.ref f10) = true)
    {f11 : Addr} {od11 an11 : Option Addr} {sl11 : Array (Option Value)} {oc11 kV11 dc11 pm11 cd11 ct11 : Value} (a11 : PySem.W.nsIn K mainGlobals "is_passed" = some (some (.ref f11))) (l11 : K.lookup f11 = some ⟨oc11, od11, .func (PySem.W.fnOf "is_passed" "is_passed" (defArgs s_is_passed) (defBody s_is_passed) (defScope s_is_passed) .none kV11 dc11 pm11 an11 cd11 ct11), sl11⟩) (c11 : PySem.W.codeIn K cd11 "is_passed" = true) (k11 : PySem.W.keepIn K (.ref f11) = true)
    {f12 C_Book : Addr} {od12 an12 : Option Addr} {sl12 : Array (Option Value)} {oc12 kV12 dc12 pm12 cd12 ct12 : Value} (aC_Book : PySem.W.nsIn K mainGlobals "Book" = some (some (.ref C_Book))) (a12 : PySem.W.findIn K (.ref C_Book) "__init__" = some (some (.ref f12))) (i12 : PySem.W.isFn K (.ref f12) = true) (l12 : K.lookup f12 = some ⟨oc12, od12, .func (PySem.W.fnOf "__init__" "Book.__init__" (defArgs s_Book) (defBody s_Book) (defScope s_Book) .none kV12 dc12 pm12 an12 cd12 ct12), sl12⟩) (c12 : PySem.W.codeIn K cd12 "Book.__init__" = true) (k12 : PySem.W.keepIn K (.ref f12) = true) (pg_Book : PySem.W.plainGet K C_Book Str.empty = true) (hd_Book : PySem.W.hasDictIn K C_Book = true) (po_Book : PySem.W.plainOver K C_Book = true) (sa_Book : PySem.W.findIn K (.ref C_Book) "__setattr__" = some (some (.builtin "object.__setattr__"))) (mk_Book : PySem.W.makesIn K C_Book = true) (kc_Book : PySem.W.keepIn K (.ref C_Book) = true) (no_Book_sides : PySem.W.findIn K (.ref C_Book) "sides" = some none) (no_Book_rulings : PySem.W.findIn K (.ref C_Book) "rulings" = some none) (ca_Book : PySem.W.findIn K (.ref C_Book) "__class__" = some (some (.builtin "object.__class__"))) (mo_Book : PySem.W.mroIn K C_Book (.type "object") = some true) (tt_Book : PySem.W.typeIn K (.ref C_Book) = some (.type "type"))
    {f13 : Addr} {od13 an13 : Option Addr} {sl13 : Array (Option Value)} {oc13 kV13 dc13 pm13 cd13 ct13 : Value} (a13 : PySem.W.nsIn K mainGlobals "least_book" = some (some (.ref f13))) (l13 : K.lookup f13 = some ⟨oc13, od13, .func (PySem.W.fnOf "least_book" "least_book" (defArgs s_least_book) (defBody s_least_book) (defScope s_least_book) .none kV13 dc13 pm13 an13 cd13 ct13), sl13⟩) (c13 : PySem.W.codeIn K cd13 "least_book" = true) (k13 : PySem.W.keepIn K (.ref f13) = true)
    {f14 : Addr} {od14 an14 : Option Addr} {sl14 : Array (Option Value)} {oc14 kV14 dc14 pm14 cd14 ct14 : Value} (a14 : PySem.W.nsIn K mainGlobals "_law_feed" = some (some (.ref f14))) (l14 : K.lookup f14 = some ⟨oc14, od14, .func (PySem.W.fnOf "_law_feed" "_law_feed" (defArgs s__law_feed) (defBody s__law_feed) (defScope s__law_feed) .none kV14 dc14 pm14 an14 cd14 ct14), sl14⟩) (c14 : PySem.W.codeIn K cd14 "_law_feed" = true) (k14 : PySem.W.keepIn K (.ref f14) = true)
    {f15 : Addr} {od15 an15 : Option Addr} {sl15 : Array (Option Value)} {oc15 kV15 dc15 pm15 cd15 ct15 : Value} (a15 : PySem.W.nsIn K mainGlobals "_law_draw" = some (some (.ref f15))) (l15 : K.lookup f15 = some ⟨oc15, od15, .func (PySem.W.fnOf "_law_draw" "_law_draw" (defArgs s__law_draw) (defBody s__law_draw) (defScope s__law_draw) .none kV15 dc15 pm15 an15 cd15 ct15), sl15⟩) (c15 : PySem.W.codeIn K cd15 "_law_draw" = true) (k15 : PySem.W.keepIn K (.ref f15) = true)
    {f16 : Addr} {od16 an16 : Option Addr} {sl16 : Array (Option Value)} {oc16 kV16 dc16 pm16 cd16 ct16 : Value} (a16 : PySem.W.nsIn K mainGlobals "_law_sides" = some (some (.ref f16))) (l16 : K.lookup f16 = some ⟨oc16, od16, .func (PySem.W.fnOf "_law_sides" "_law_sides" (defArgs s__law_sides) (defBody s__law_sides) (defScope s__law_sides) .none kV16 dc16 pm16 an16 cd16 ct16), sl16⟩) (c16 : PySem.W.codeIn K cd16 "_law_sides" = true) (k16 : PySem.W.keepIn K (.ref f16) = true)
    {f17 : Addr} {od17 an17 : Option Addr} {sl17 : Array (Option Value)} {oc17 kV17 dc17 pm17 cd17 ct17 : Value} (a17 : PySem.W.nsIn K mainGlobals "_law_case" = some (some (.ref f17))) (l17 : K.lookup f17 = some ⟨oc17, od17, .func (PySem.W.fnOf "_law_case" "_law_case" (defArgs s__law_case) (defBody s__law_case) (defScope s__law_case) .none kV17 dc17 pm17 an17 cd17 ct17), sl17⟩) (c17 : PySem.W.codeIn K cd17 "_law_case" = true) (k17 : PySem.W.keepIn K (.ref f17) = true)
    {f18 : Addr} {od18 an18 : Option Addr} {sl18 : Array (Option Value)} {oc18 kV18 dc18 pm18 cd18 ct18 : Value} (a18 : PySem.W.nsIn K mainGlobals "_law_cases" = some (some (.ref f18))) (l18 : K.lookup f18 = some ⟨oc18, od18, .func (PySem.W.fnOf "_law_cases" "_law_cases" (defArgs s__law_cases) (defBody s__law_cases) (defScope s__law_cases) .none kV18 dc18 pm18 an18 cd18 ct18), sl18⟩) (c18 : PySem.W.codeIn K cd18 "_law_cases" = true) (k18 : PySem.W.keepIn K (.ref f18) = true)
    {f19 : Addr} {od19 an19 : Option Addr} {sl19 : Array (Option Value)} {oc19 kV19 dc19 pm19 cd19 ct19 : Value} (a19 : PySem.W.nsIn K mainGlobals "_law_ge" = some (some (.ref f19))) (l19 : K.lookup f19 = some ⟨oc19, od19, .func (PySem.W.fnOf "_law_ge" "_law_ge" (defArgs s__law_ge) (defBody s__law_ge) (defScope s__law_ge) .none kV19 dc19 pm19 an19 cd19 ct19), sl19⟩) (c19 : PySem.W.codeIn K cd19 "_law_ge" = true) (k19 : PySem.W.keepIn K (.ref f19) = true)
    {f20 : Addr} {od20 an20 : Option Addr} {sl20 : Array (Option Value)} {oc20 kV20 dc20 pm20 cd20 ct20 : Value} (a20 : PySem.W.nsIn K mainGlobals "_law_rulings" = some (some (.ref f20))) (l20 : K.lookup f20 = some ⟨oc20, od20, .func (PySem.W.fnOf "_law_rulings" "_law_rulings" (defArgs s__law_rulings) (defBody s__law_rulings) (defScope s__law_rulings) .none kV20 dc20 pm20 an20 cd20 ct20), sl20⟩) (c20 : PySem.W.codeIn K cd20 "_law_rulings" = true) (k20 : PySem.W.keepIn K (.ref f20) = true)
    {f21 : Addr} {od21 an21 : Option Addr} {sl21 : Array (Option Value)} {oc21 kV21 dc21 pm21 cd21 ct21 : Value} (a21 : PySem.W.nsIn K mainGlobals "_law_flipped" = some (some (.ref f21))) (l21 : K.lookup f21 = some ⟨oc21, od21, .func (PySem.W.fnOf "_law_flipped" "_law_flipped" (defArgs s__law_flipped) (defBody s__law_flipped) (defScope s__law_flipped) .none kV21 dc21 pm21 an21 cd21 ct21), sl21⟩) (c21 : PySem.W.codeIn K cd21 "_law_flipped" = true) (k21 : PySem.W.keepIn K (.ref f21) = true)
    {f22 : Addr} {od22 an22 : Option Addr} {sl22 : Array (Option Value)} {oc22 kV22 dc22 pm22 cd22 ct22 : Value} (a22 : PySem.W.nsIn K mainGlobals "_law_some_book" = some (some (.ref f22))) (l22 : K.lookup f22 = some ⟨oc22, od22, .func (PySem.W.fnOf "_law_some_book" "_law_some_book" (defArgs s__law_some_book) (defBody s__law_some_book) (defScope s__law_some_book) .none kV22 dc22 pm22 an22 cd22 ct22), sl22⟩) (c22 : PySem.W.codeIn K cd22 "_law_some_book" = true) (k22 : PySem.W.keepIn K (.ref f22) = true)
    {f23 : Addr} {od23 an23 : Option Addr} {sl23 : Array (Option Value)} {oc23 kV23 dc23 pm23 cd23 ct23 : Value} (a23 : PySem.W.nsIn K mainGlobals "_law_cross" = some (some (.ref f23))) (l23 : K.lookup f23 = some ⟨oc23, od23, .func (PySem.W.fnOf "_law_cross" "_law_cross" (defArgs s__law_cross) (defBody s__law_cross) (defScope s__law_cross) .none kV23 dc23 pm23 an23 cd23 ct23), sl23⟩) (c23 : PySem.W.codeIn K cd23 "_law_cross" = true) (k23 : PySem.W.keepIn K (.ref f23) = true)
    {f24 : Addr} {od24 an24 : Option Addr} {sl24 : Array (Option Value)} {oc24 kV24 dc24 pm24 cd24 ct24 : Value} (a24 : PySem.W.nsIn K mainGlobals "_law_more" = some (some (.ref f24))) (l24 : K.lookup f24 = some ⟨oc24, od24, .func (PySem.W.fnOf "_law_more" "_law_more" (defArgs s__law_more) (defBody s__law_more) (defScope s__law_more) .none kV24 dc24 pm24 an24 cd24 ct24), sl24⟩) (c24 : PySem.W.codeIn K cd24 "_law_more" = true) (k24 : PySem.W.keepIn K (.ref f24) = true)
    {f25 : Addr} {od25 an25 : Option Addr} {sl25 : Array (Option Value)} {oc25 kV25 dc25 pm25 cd25 ct25 : Value} (a25 : PySem.W.nsIn K mainGlobals "_law_says" = some (some (.ref f25))) (l25 : K.lookup f25 = some ⟨oc25, od25, .func (PySem.W.fnOf "_law_says" "_law_says" (defArgs s__law_says) (defBody s__law_says) (defScope s__law_says) .none kV25 dc25 pm25 an25 cd25 ct25), sl25⟩) (c25 : PySem.W.codeIn K cd25 "_law_says" = true) (k25 : PySem.W.keepIn K (.ref f25) = true)
    {f26 : Addr} {od26 an26 : Option Addr} {sl26 : Array (Option Value)} {oc26 kV26 dc26 pm26 cd26 ct26 : Value} (a26 : PySem.W.nsIn K mainGlobals "_law_passed" = some (some (.ref f26))) (l26 : K.lookup f26 = some ⟨oc26, od26, .func (PySem.W.fnOf "_law_passed" "_law_passed" (defArgs s__law_passed) (defBody s__law_passed) (defScope s__law_passed) .none kV26 dc26 pm26 an26 cd26 ct26), sl26⟩) (c26 : PySem.W.codeIn K cd26 "_law_passed" = true) (k26 : PySem.W.keepIn K (.ref f26) = true)
    {f27 : Addr} {od27 an27 : Option Addr} {sl27 : Array (Option Value)} {oc27 kV27 dc27 pm27 cd27 ct27 : Value} (a27 : PySem.W.nsIn K mainGlobals "_law_bound" = some (some (.ref f27))) (l27 : K.lookup f27 = some ⟨oc27, od27, .func (PySem.W.fnOf "_law_bound" "_law_bound" (defArgs s__law_bound) (defBody s__law_bound) (defScope s__law_bound) .none kV27 dc27 pm27 an27 cd27 ct27), sl27⟩) (c27 : PySem.W.codeIn K cd27 "_law_bound" = true) (k27 : PySem.W.keepIn K (.ref f27) = true)
    {f28 : Addr} {od28 an28 : Option Addr} {sl28 : Array (Option Value)} {oc28 kV28 dc28 pm28 cd28 ct28 : Value} (a28 : PySem.W.nsIn K mainGlobals "_law_asks" = some (some (.ref f28))) (l28 : K.lookup f28 = some ⟨oc28, od28, .func (PySem.W.fnOf "_law_asks" "_law_asks" (defArgs s__law_asks) (defBody s__law_asks) (defScope s__law_asks) .none kV28 dc28 pm28 an28 cd28 ct28), sl28⟩) (c28 : PySem.W.codeIn K cd28 "_law_asks" = true) (k28 : PySem.W.keepIn K (.ref f28) = true)
    {f29 : Addr} {od29 an29 : Option Addr} {sl29 : Array (Option Value)} {oc29 kV29 dc29 pm29 cd29 ct29 : Value} (a29 : PySem.W.nsIn K mainGlobals "law" = some (some (.ref f29))) (l29 : K.lookup f29 = some ⟨oc29, od29, .func (PySem.W.fnOf "law" "law" (defArgs s_law) (defBody s_law) (defScope s_law) .none kV29 dc29 pm29 an29 cd29 ct29), sl29⟩) (c29 : PySem.W.codeIn K cd29 "law" = true) (k29 : PySem.W.keepIn K (.ref f29) = true)
    (spO : PySem.W.specialIn K (.builtin "object.__class__") "__get__" = some (some (.builtin "getset_descriptor.__get__"))) (tkO : PySem.W.takesIn K (.builtin "object.__class__") = some true)
    {C_BadSides : Addr} {B_BadSides_HouseError : Addr} {nm_BadSides q_BadSides : Str} {N_BadSides : Addr} {bs_BadSides : List Value} {sn_BadSides : List Str} {sub_BadSides : List Value} {ab_BadSides : Bool} {col_BadSides : Option Bool} {dd_BadSides : Option Addr} {m0_BadSides m1_BadSides m2_BadSides m3_BadSides m5_BadSides : Option Value} {i_BadSides : Addr} {od_BadSides an_BadSides : Option Addr} {sl_BadSides : Array (Option Value)} {oc_BadSides kV_BadSides dc_BadSides pm_BadSides cd_BadSides ct_BadSides : Value} (aC_BadSides : PySem.W.nsIn K mainGlobals "BadSides" = some (some (.ref C_BadSides))) (xL_BadSides : K.lookup C_BadSides = some (excClassObj nm_BadSides q_BadSides C_BadSides N_BadSides bs_BadSides [.ref B_BadSides_HouseError, .type "ValueError", .type "Exception", .type "BaseException", .type "object"] true sn_BadSides sub_BadSides ab_BadSides col_BadSides dd_BadSides m0_BadSides m1_BadSides m2_BadSides m3_BadSides m5_BadSides "ValueError.__new__")) (sa_BadSides : PySem.W.findIn K (.ref C_BadSides) "__setattr__" = some (some (.builtin "object.__setattr__"))) (ga_BadSides : PySem.W.findIn K (.ref C_BadSides) "__getattribute__" = some (some (.builtin "BaseException.__getattribute__"))) (gg_BadSides : PySem.W.findIn K (.ref C_BadSides) "__getattr__" = some none) (cl_BadSides : PySem.W.findIn K (.ref C_BadSides) "__class__" = some (some (.builtin "object.__class__"))) (no_BadSides_at : PySem.W.findIn K (.ref C_BadSides) "at" = some none) (a1_BadSides : PySem.W.findIn K (.ref C_BadSides) "__init__" = some (some (.ref i_BadSides))) (t1_BadSides : PySem.W.typeIn K (.ref i_BadSides) = some (.type "function")) (l1_BadSides : K.lookup i_BadSides = some ⟨oc_BadSides, od_BadSides, .func (PySem.W.fnOf "__init__" "BadSides.__init__" (defArgs si_BadSides) (defBody si_BadSides) (defScope si_BadSides) .none kV_BadSides dc_BadSides pm_BadSides an_BadSides cd_BadSides ct_BadSides), sl_BadSides⟩) (c1_BadSides : PySem.W.codeIn K cd_BadSides "BadSides.__init__" = true) (k1_BadSides : PySem.W.keepIn K (.ref i_BadSides) = true) (kC_BadSides : PySem.W.keepIn K (.ref C_BadSides) = true) (eC_BadSides : PySem.W.subIn K (.ref C_BadSides) (.type "BaseException") = some true) (tC_BadSides : PySem.W.typeIn K (.ref C_BadSides) = some (.type "type")) (hC_BadSides : PySem.W.hasDictIn K C_BadSides = true) (mo_BadSides : PySem.W.mroIn K C_BadSides (.type "object") = some true)
    {C_BadRuling : Addr} {B_BadRuling_HouseError : Addr} {nm_BadRuling q_BadRuling : Str} {N_BadRuling : Addr} {bs_BadRuling : List Value} {sn_BadRuling : List Str} {sub_BadRuling : List Value} {ab_BadRuling : Bool} {col_BadRuling : Option Bool} {dd_BadRuling : Option Addr} {m0_BadRuling m1_BadRuling m2_BadRuling m3_BadRuling m5_BadRuling : Option Value} {i_BadRuling : Addr} {od_BadRuling an_BadRuling : Option Addr} {sl_BadRuling : Array (Option Value)} {oc_BadRuling kV_BadRuling dc_BadRuling pm_BadRuling cd_BadRuling ct_BadRuling : Value} (aC_BadRuling : PySem.W.nsIn K mainGlobals "BadRuling" = some (some (.ref C_BadRuling))) (xL_BadRuling : K.lookup C_BadRuling = some (excClassObj nm_BadRuling q_BadRuling C_BadRuling N_BadRuling bs_BadRuling [.ref B_BadRuling_HouseError, .type "ValueError", .type "Exception", .type "BaseException", .type "object"] true sn_BadRuling sub_BadRuling ab_BadRuling col_BadRuling dd_BadRuling m0_BadRuling m1_BadRuling m2_BadRuling m3_BadRuling m5_BadRuling "ValueError.__new__")) (sa_BadRuling : PySem.W.findIn K (.ref C_BadRuling) "__setattr__" = some (some (.builtin "object.__setattr__"))) (ga_BadRuling : PySem.W.findIn K (.ref C_BadRuling) "__getattribute__" = some (some (.builtin "BaseException.__getattribute__"))) (gg_BadRuling : PySem.W.findIn K (.ref C_BadRuling) "__getattr__" = some none) (cl_BadRuling : PySem.W.findIn K (.ref C_BadRuling) "__class__" = some (some (.builtin "object.__class__"))) (no_BadRuling_at : PySem.W.findIn K (.ref C_BadRuling) "at" = some none) (a1_BadRuling : PySem.W.findIn K (.ref C_BadRuling) "__init__" = some (some (.ref i_BadRuling))) (t1_BadRuling : PySem.W.typeIn K (.ref i_BadRuling) = some (.type "function")) (l1_BadRuling : K.lookup i_BadRuling = some ⟨oc_BadRuling, od_BadRuling, .func (PySem.W.fnOf "__init__" "BadRuling.__init__" (defArgs si_BadRuling) (defBody si_BadRuling) (defScope si_BadRuling) .none kV_BadRuling dc_BadRuling pm_BadRuling an_BadRuling cd_BadRuling ct_BadRuling), sl_BadRuling⟩) (c1_BadRuling : PySem.W.codeIn K cd_BadRuling "BadRuling.__init__" = true) (k1_BadRuling : PySem.W.keepIn K (.ref i_BadRuling) = true) (kC_BadRuling : PySem.W.keepIn K (.ref C_BadRuling) = true) (eC_BadRuling : PySem.W.subIn K (.ref C_BadRuling) (.type "BaseException") = some true) (tC_BadRuling : PySem.W.typeIn K (.ref C_BadRuling) = some (.type "type")) (hC_BadRuling : PySem.W.hasDictIn K C_BadRuling = true) (mo_BadRuling : PySem.W.mroIn K C_BadRuling (.type "object") = some true)
    {C_Crossed : Addr} {B_Crossed_HouseError : Addr} {nm_Crossed q_Crossed : Str} {N_Crossed : Addr} {bs_Crossed : List Value} {sn_Crossed : List Str} {sub_Crossed : List Value} {ab_Crossed : Bool} {col_Crossed : Option Bool} {dd_Crossed : Option Addr} {m0_Crossed m1_Crossed m2_Crossed m3_Crossed m5_Crossed : Option Value} {i_Crossed : Addr} {od_Crossed an_Crossed : Option Addr} {sl_Crossed : Array (Option Value)} {oc_Crossed kV_Crossed dc_Crossed pm_Crossed cd_Crossed ct_Crossed : Value} (aC_Crossed : PySem.W.nsIn K mainGlobals "Crossed" = some (some (.ref C_Crossed))) (xL_Crossed : K.lookup C_Crossed = some (excClassObj nm_Crossed q_Crossed C_Crossed N_Crossed bs_Crossed [.ref B_Crossed_HouseError, .type "ValueError", .type "Exception", .type "BaseException", .type "object"] true sn_Crossed sub_Crossed ab_Crossed col_Crossed dd_Crossed m0_Crossed m1_Crossed m2_Crossed m3_Crossed m5_Crossed "ValueError.__new__")) (sa_Crossed : PySem.W.findIn K (.ref C_Crossed) "__setattr__" = some (some (.builtin "object.__setattr__"))) (ga_Crossed : PySem.W.findIn K (.ref C_Crossed) "__getattribute__" = some (some (.builtin "BaseException.__getattribute__"))) (gg_Crossed : PySem.W.findIn K (.ref C_Crossed) "__getattr__" = some none) (cl_Crossed : PySem.W.findIn K (.ref C_Crossed) "__class__" = some (some (.builtin "object.__class__"))) (no_Crossed_i : PySem.W.findIn K (.ref C_Crossed) "i" = some none) (no_Crossed_j : PySem.W.findIn K (.ref C_Crossed) "j" = some none) (a1_Crossed : PySem.W.findIn K (.ref C_Crossed) "__init__" = some (some (.ref i_Crossed))) (t1_Crossed : PySem.W.typeIn K (.ref i_Crossed) = some (.type "function")) (l1_Crossed : K.lookup i_Crossed = some ⟨oc_Crossed, od_Crossed, .func (PySem.W.fnOf "__init__" "Crossed.__init__" (defArgs si_Crossed) (defBody si_Crossed) (defScope si_Crossed) .none kV_Crossed dc_Crossed pm_Crossed an_Crossed cd_Crossed ct_Crossed), sl_Crossed⟩) (c1_Crossed : PySem.W.codeIn K cd_Crossed "Crossed.__init__" = true) (k1_Crossed : PySem.W.keepIn K (.ref i_Crossed) = true) (kC_Crossed : PySem.W.keepIn K (.ref C_Crossed) = true) (eC_Crossed : PySem.W.subIn K (.ref C_Crossed) (.type "BaseException") = some true) (tC_Crossed : PySem.W.typeIn K (.ref C_Crossed) = some (.type "type")) (hC_Crossed : PySem.W.hasDictIn K C_Crossed = true) (mo_Crossed : PySem.W.mroIn K C_Crossed (.type "object") = some true)
    (spG : PySem.W.specialIn K (.builtin "object.__class__") "__get__" = some (some (.builtin "getset_descriptor.__get__"))) (tkG : PySem.W.takesIn K (.builtin "object.__class__") = some true)
    (sb_Crossed_Crossed : PySem.W.subIn K (.ref C_Crossed) (.ref C_Crossed) = some true)
    (z_abs : PySem.W.nsIn K mainGlobals "abs" = some none)
    (z_bool : PySem.W.nsIn K mainGlobals "bool" = some none)
    (z_enumerate : PySem.W.nsIn K mainGlobals "enumerate" = some none)
    (z_int : PySem.W.nsIn K mainGlobals "int" = some none)
    (z_isinstance : PySem.W.nsIn K mainGlobals "isinstance" = some none)
    (z_len : PySem.W.nsIn K mainGlobals "len" = some none)
    (z_list : PySem.W.nsIn K mainGlobals "list" = some none)
    (z_max : PySem.W.nsIn K mainGlobals "max" = some none)
    (z_min : PySem.W.nsIn K mainGlobals "min" = some none)
    (z_range : PySem.W.nsIn K mainGlobals "range" = some none)
    (z_str : PySem.W.nsIn K mainGlobals "str" = some none)
    (z_tuple : PySem.W.nsIn K mainGlobals "tuple" = some none)
    (z_zip : PySem.W.nsIn K mainGlobals "zip" = some none)
    {t_ANSWERS_0 t_ANSWERS_1 : Tok} {q_ANSWERS : Addr} {u_ANSWERS : Option Addr} {n_ANSWERS : Nat} {w_ANSWERS : Array (Option Value)} (c_ANSWERS : PySem.W.nsIn K mainGlobals "ANSWERS" = some (some (.ref q_ANSWERS))) (e_ANSWERS : K.lookup q_ANSWERS = some ⟨.type "tuple", u_ANSWERS, .seq #[.str (Str.ofString "remove") t_ANSWERS_0, .str (Str.ofString "keep") t_ANSWERS_1] n_ANSWERS, w_ANSWERS⟩)
    {t_MOST_GRADE : Tok} (c_MOST_GRADE : PySem.W.nsIn K mainGlobals "MOST_GRADE" = some (some (.int 3 t_MOST_GRADE)))
    {t_MOST_RULINGS : Tok} (c_MOST_RULINGS : PySem.W.nsIn K mainGlobals "MOST_RULINGS" = some (some (.int 30 t_MOST_RULINGS)))
    {t_MOST_SIGNS : Tok} (c_MOST_SIGNS : PySem.W.nsIn K mainGlobals "MOST_SIGNS" = some (some (.int 5 t_MOST_SIGNS)))
    : ∃ fd : FuncData, (∀ (s : Shared) (v : Value), BindsTo s fd ⟨[v], []⟩ [("script", v)]) ∧ ∀ base : Heap, K.In base → base.Ns mainGlobals mg → FnOk l.prog w K mg base CX0 10 fa fd ["script"] (spL K) := by
  have e := hfa.symm.trans (PySem.W.mg_of X G a29)
  cases e
  let T : Top K mg := ⟨_, _, fun_mk (st := s_is_whole) l0 c0 k0, PySem.W.mg_of X G a0, (fun_mk (st := s_is_whole) l0 c0 k0).binds (ps := ["value"]) fun _ _ _ _ _ _ us hl => match us, hl with | [_], _ => rfl,
    _, _, fun_mk (st := s_is_answer) l1 c1 k1, PySem.W.mg_of X G a1, (fun_mk (st := s_is_answer) l1 c1 k1).binds (ps := ["value"]) fun _ _ _ _ _ _ us hl => match us, hl with | [_], _ => rfl,
    _, _, fun_mk (st := s_check_sides) l2 c2 k2, PySem.W.mg_of X G a2, (fun_mk (st := s_check_sides) l2 c2 k2).binds (ps := ["sides"]) fun _ _ _ _ _ _ us hl => match us, hl with | [_], _ => rfl,
    _, _, fun_mk (st := s_is_case) l3 c3 k3, PySem.W.mg_of X G a3, (fun_mk (st := s_is_case) l3 c3 k3).binds (ps := ["sides", "value"]) fun _ _ _ _ _ _ us hl => match us, hl with | [_, _], _ => rfl,
    _, _, fun_mk (st := s_at_least) l4 c4 k4, PySem.W.mg_of X G a4, (fun_mk (st := s_at_least) l4 c4 k4).binds (ps := ["sides", "c", "d"]) fun _ _ _ _ _ _ us hl => match us, hl with | [_, _, _], _ => rfl,
    _, _, fun_mk (st := s_is_ruling) l5 c5 k5, PySem.W.mg_of X G a5, (fun_mk (st := s_is_ruling) l5 c5 k5).binds (ps := ["sides", "value"]) fun _ _ _ _ _ _ us hl => match us, hl with | [_, _], _ => rfl,
    _, _, fun_mk (st := s_indexes_of) l6 c6 k6, PySem.W.mg_of X G a6, (fun_mk (st := s_indexes_of) l6 c6 k6).binds (ps := ["book", "answer"]) fun _ _ _ _ _ _ us hl => match us, hl with | [_, _], _ => rfl,
    _, _, fun_mk (st := s_crosses) l7 c7 k7, PySem.W.mg_of X G a7, (fun_mk (st := s_crosses) l7 c7 k7).binds (ps := ["book", "i", "j"]) fun _ _ _ _ _ _ us hl => match us, hl with | [_, _, _], _ => rfl,
    _, _, fun_mk (st := s_first_cross) l8 c8 k8, PySem.W.mg_of X G a8, (fun_mk (st := s_first_cross) l8 c8 k8).binds (ps := ["book"]) fun _ _ _ _ _ _ us hl => match us, hl with | [_], _ => rfl,
    _, _, fun_mk (st := s_check_sound) l9 c9 k9, PySem.W.mg_of X G a9, (fun_mk (st := s_check_sound) l9 c9 k9).binds (ps := ["book"]) fun _ _ _ _ _ _ us hl => match us, hl with | [_], _ => rfl,
    _, _, fun_mk (st := s_says) l10 c10 k10, PySem.W.mg_of X G a10, (fun_mk (st := s_says) l10 c10 k10).binds (ps := ["sides", "ruling", "case"]) fun _ _ _ _ _ _ us hl => match us, hl with | [_, _, _], _ => rfl,
    _, _, fun_mk (st := s_is_passed) l11 c11 k11, PySem.W.mg_of X G a11, (fun_mk (st := s_is_passed) l11 c11 k11).binds (ps := ["book", "k"]) fun _ _ _ _ _ _ us hl => match us, hl with | [_, _], _ => rfl,
    _, _, C_Book, fun_mk (st := s_Book) l12 c12 k12, PySem.W.mg_of X G aC_Book, ⟨PySem.W.mg_of X G aC_Book, ⟨pg_Book, hd_Book, po_Book, sa_Book⟩, by intro f hf; simp only [List.mem_cons, List.not_mem_nil, or_false] at hf; rcases hf with rfl | rfl; exact no_Book_sides; exact no_Book_rulings⟩, ⟨mk_Book, a12, i12, kc_Book⟩, (fun_mk (st := s_Book) l12 c12 k12).binds (ps := ["self", "sides", "rulings"]) fun _ _ _ _ _ _ us hl => match us, hl with | [_, _, _], _ => rfl, ⟨PySem.W.mg_of X G aC_Book, ⟨pg_Book, hd_Book, po_Book, sa_Book⟩, ca_Book, mo_Book⟩, tt_Book,
    _, _, fun_mk (st := s_least_book) l13 c13 k13, PySem.W.mg_of X G a13, (fun_mk (st := s_least_book) l13 c13 k13).binds (ps := ["book"]) fun _ _ _ _ _ _ us hl => match us, hl with | [_], _ => rfl,
    _, _, fun_mk (st := s__law_feed) l14 c14 k14, PySem.W.mg_of X G a14, (fun_mk (st := s__law_feed) l14 c14 k14).binds (ps := ["script"]) fun _ _ _ _ _ _ us hl => match us, hl with | [_], _ => rfl,
    _, _, fun_mk (st := s__law_draw) l15 c15 k15, PySem.W.mg_of X G a15, (fun_mk (st := s__law_draw) l15 c15 k15).binds (ps := ["feed", "many"]) fun _ _ _ _ _ _ us hl => match us, hl with | [_, _], _ => rfl,
    _, _, fun_mk (st := s__law_sides) l16 c16 k16, PySem.W.mg_of X G a16, (fun_mk (st := s__law_sides) l16 c16 k16).binds (ps := ["feed", "most"]) fun _ _ _ _ _ _ us hl => match us, hl with | [_, _], _ => rfl,
    _, _, fun_mk (st := s__law_case) l17 c17 k17, PySem.W.mg_of X G a17, (fun_mk (st := s__law_case) l17 c17 k17).binds (ps := ["feed", "sides"]) fun _ _ _ _ _ _ us hl => match us, hl with | [_, _], _ => rfl,
    _, _, fun_mk (st := s__law_cases) l18 c18 k18, PySem.W.mg_of X G a18, (fun_mk (st := s__law_cases) l18 c18 k18).binds (ps := ["sides"]) fun _ _ _ _ _ _ us hl => match us, hl with | [_], _ => rfl,
    _, _, fun_mk (st := s__law_ge) l19 c19 k19, PySem.W.mg_of X G a19, (fun_mk (st := s__law_ge) l19 c19 k19).binds (ps := ["sides", "c", "d"]) fun _ _ _ _ _ _ us hl => match us, hl with | [_, _, _], _ => rfl,
    _, _, fun_mk (st := s__law_rulings) l20 c20 k20, PySem.W.mg_of X G a20, (fun_mk (st := s__law_rulings) l20 c20 k20).binds (ps := ["feed", "sides", "most"]) fun _ _ _ _ _ _ us hl => match us, hl with | [_, _, _], _ => rfl,
    _, _, fun_mk (st := s__law_flipped) l21 c21 k21, PySem.W.mg_of X G a21, (fun_mk (st := s__law_flipped) l21 c21 k21).binds (ps := ["feed", "rulings"]) fun _ _ _ _ _ _ us hl => match us, hl with | [_, _], _ => rfl,
    _, _, fun_mk (st := s__law_some_book) l22 c22 k22, PySem.W.mg_of X G a22, (fun_mk (st := s__law_some_book) l22 c22 k22).binds (ps := ["feed"]) fun _ _ _ _ _ _ us hl => match us, hl with | [_], _ => rfl,
    _, _, fun_mk (st := s__law_cross) l23 c23 k23, PySem.W.mg_of X G a23, (fun_mk (st := s__law_cross) l23 c23 k23).binds (ps := ["sides", "rulings"]) fun _ _ _ _ _ _ us hl => match us, hl with | [_, _], _ => rfl,
    _, _, fun_mk (st := s__law_more) l24 c24 k24, PySem.W.mg_of X G a24, (fun_mk (st := s__law_more) l24 c24 k24).binds (ps := ["feed", "sides", "rulings"]) fun _ _ _ _ _ _ us hl => match us, hl with | [_, _, _], _ => rfl,
    _, _, fun_mk (st := s__law_says) l25 c25 k25, PySem.W.mg_of X G a25, (fun_mk (st := s__law_says) l25 c25 k25).binds (ps := ["sides", "ruling", "case"]) fun _ _ _ _ _ _ us hl => match us, hl with | [_, _, _], _ => rfl,
    _, _, fun_mk (st := s__law_passed) l26 c26 k26, PySem.W.mg_of X G a26, (fun_mk (st := s__law_passed) l26 c26 k26).binds (ps := ["sides", "rulings", "k"]) fun _ _ _ _ _ _ us hl => match us, hl with | [_, _, _], _ => rfl,
    _, _, fun_mk (st := s__law_bound) l27 c27 k27, PySem.W.mg_of X G a27, (fun_mk (st := s__law_bound) l27 c27 k27).binds (ps := ["sides", "rulings", "every"]) fun _ _ _ _ _ _ us hl => match us, hl with | [_, _, _], _ => rfl,
    _, _, fun_mk (st := s__law_asks) l28 c28 k28, PySem.W.mg_of X G a28, (fun_mk (st := s__law_asks) l28 c28 k28).binds (ps := ["sides", "rulings"]) fun _ _ _ _ _ _ us hl => match us, hl with | [_, _], _ => rfl,
    _, _, fun_mk (st := s_law) l29 c29 k29, PySem.W.mg_of X G a29, (fun_mk (st := s_law) l29 c29 k29).binds (ps := ["script"]) fun _ _ _ _ _ _ us hl => match us, hl with | [_], _ => rfl,
    ⟨spO, tkO⟩,
    C_BadSides,
    i_BadSides, _, ⟨PySem.W.mg_of X G aC_BadSides, ⟨⟨nm_BadSides, q_BadSides, N_BadSides, bs_BadSides, _, sn_BadSides, sub_BadSides, ab_BadSides, col_BadSides, dd_BadSides, m0_BadSides, m1_BadSides, m2_BadSides, m3_BadSides, m5_BadSides, xL_BadSides, by rfl⟩, sa_BadSides, eC_BadSides, tC_BadSides, kC_BadSides⟩, a1_BadSides, t1_BadSides, by intro f hf; simp only [List.mem_cons, List.not_mem_nil, or_false] at hf; subst hf; exact no_BadSides_at⟩, fun_mk (st := si_BadSides) l1_BadSides c1_BadSides k1_BadSides, (fun_mk (st := si_BadSides) l1_BadSides c1_BadSides k1_BadSides).binds (ps := ["self", "at"]) fun _ _ _ _ _ _ us hl => match us, hl with | [_, _], _ => rfl, ⟨ga_BadSides, gg_BadSides, eC_BadSides, hC_BadSides⟩, ⟨ga_BadSides, gg_BadSides, eC_BadSides, hC_BadSides, cl_BadSides, spG, tkG, mo_BadSides⟩,
    C_BadRuling,
    i_BadRuling, _, ⟨PySem.W.mg_of X G aC_BadRuling, ⟨⟨nm_BadRuling, q_BadRuling, N_BadRuling, bs_BadRuling, _, sn_BadRuling, sub_BadRuling, ab_BadRuling, col_BadRuling, dd_BadRuling, m0_BadRuling, m1_BadRuling, m2_BadRuling, m3_BadRuling, m5_BadRuling, xL_BadRuling, by rfl⟩, sa_BadRuling, eC_BadRuling, tC_BadRuling, kC_BadRuling⟩, a1_BadRuling, t1_BadRuling, by intro f hf; simp only [List.mem_cons, List.not_mem_nil, or_false] at hf; subst hf; exact no_BadRuling_at⟩, fun_mk (st := si_BadRuling) l1_BadRuling c1_BadRuling k1_BadRuling, (fun_mk (st := si_BadRuling) l1_BadRuling c1_BadRuling k1_BadRuling).binds (ps := ["self", "at"]) fun _ _ _ _ _ _ us hl => match us, hl with | [_, _], _ => rfl, ⟨ga_BadRuling, gg_BadRuling, eC_BadRuling, hC_BadRuling⟩, ⟨ga_BadRuling, gg_BadRuling, eC_BadRuling, hC_BadRuling, cl_BadRuling, spG, tkG, mo_BadRuling⟩,
    C_Crossed,
    PySem.W.mg_of X G aC_Crossed,
    i_Crossed, _, ⟨PySem.W.mg_of X G aC_Crossed, ⟨⟨nm_Crossed, q_Crossed, N_Crossed, bs_Crossed, _, sn_Crossed, sub_Crossed, ab_Crossed, col_Crossed, dd_Crossed, m0_Crossed, m1_Crossed, m2_Crossed, m3_Crossed, m5_Crossed, xL_Crossed, by rfl⟩, sa_Crossed, eC_Crossed, tC_Crossed, kC_Crossed⟩, a1_Crossed, t1_Crossed, by intro f hf; simp only [List.mem_cons, List.not_mem_nil, or_false] at hf; rcases hf with rfl | rfl; exact no_Crossed_i; exact no_Crossed_j⟩, fun_mk (st := si_Crossed) l1_Crossed c1_Crossed k1_Crossed, (fun_mk (st := si_Crossed) l1_Crossed c1_Crossed k1_Crossed).binds (ps := ["self", "i", "j"]) fun _ _ _ _ _ _ us hl => match us, hl with | [_, _, _], _ => rfl, ⟨ga_Crossed, gg_Crossed, eC_Crossed, hC_Crossed⟩, ⟨ga_Crossed, gg_Crossed, eC_Crossed, hC_Crossed, cl_Crossed, spG, tkG, mo_Crossed⟩,
    PySem.W.exm_ref eC_Crossed hC_Crossed tC_Crossed sb_Crossed_Crossed,
    PySem.W.mg_none_of X G z_abs,
    PySem.W.mg_none_of X G z_bool,
    PySem.W.mg_none_of X G z_enumerate,
    PySem.W.mg_none_of X G z_int,
    PySem.W.mg_none_of X G z_isinstance,
    PySem.W.mg_none_of X G z_len,
    PySem.W.mg_none_of X G z_list,
    PySem.W.mg_none_of X G z_max,
    PySem.W.mg_none_of X G z_min,
    PySem.W.mg_none_of X G z_range,
    PySem.W.mg_none_of X G z_str,
    PySem.W.mg_none_of X G z_tuple,
    PySem.W.mg_none_of X G z_zip,
    ⟨_, _, _, _, PySem.W.mg_of X G c_ANSWERS, e_ANSWERS, rfl, rfl, (show 2 ≤ sizeLine by decide +kernel), (.cons (globT_val (by decide +kernel)) (.cons (globT_val (by decide +kernel)) .nil))⟩,
    ⟨_, PySem.W.mg_of X G c_MOST_GRADE⟩,
    ⟨_, PySem.W.mg_of X G c_MOST_RULINGS⟩,
    ⟨_, PySem.W.mg_of X G c_MOST_SIGNS⟩⟩
  exact ⟨PySem.W.fnOf "law" "law" (defArgs s_law) (defBody s_law) (defScope s_law) .none kV29 dc29 pm29 an29 cd29 ct29, fun s v => .of_eq rfl, fun base _ _ => law_impW (ok_law T) (by decide) rfl law_true⟩
end G_k06
open PySem PySem.W PyProof.Rows
set_option maxHeartbeats 0 in
theorem PySem.Challenge.cw_rulingstold_k06_whole_least_books_holds : PySem.Challenge.rw_rulingstold_k06_whole_least_books.Holds := by
  w_on; o_law; k_head; (case hw => w_witness2)
  k_fill
  refine L2.walk_of (l := PySem.Challenge.rw_rulingstold_k06_whole_least_books) (n := 63) (k := 10) (x := "script") (CX := fun _ => L2.CX0) (sp := fun w => VL.spL _) rfl (by decide) rfl ⟨rfl, by decide, by decide⟩ (fun w h Y => PySem.W.kIn_of Y) ?F (fun _ _ a ns hl _ hS => ⟨a, ns, rfl, hS, hl, fun _ => rfl⟩) (fun _ _ _ _ _ h => h)
  case F =>
    intro w mg fa h KX G hmg
    refine' G_k06.all_mk KX G hmg ?a0 ?l0 ?c0 ?k0 ?a1 ?l1 ?c1 ?k1 ?a2 ?l2 ?c2 ?k2 ?a3 ?l3 ?c3 ?k3 ?a4 ?l4 ?c4 ?k4 ?a5 ?l5 ?c5 ?k5 ?a6 ?l6 ?c6 ?k6 ?a7 ?l7 ?c7 ?k7 ?a8 ?l8 ?c8 ?k8 ?a9 ?l9 ?c9 ?k9 ?a10 ?l10 ?c10 ?k10 ?a11 ?l11 ?c11 ?k11 ?aC_Book ?a12 ?i12 ?l12 ?c12 ?k12 ?pg_Book ?hd_Book ?po_Book ?sa_Book ?mk_Book ?kc_Book ?no_Book_sides ?no_Book_rulings ?ca_Book ?mo_Book ?tt_Book ?a13 ?l13 ?c13 ?k13 ?a14 ?l14 ?c14 ?k14 ?a15 ?l15 ?c15 ?k15 ?a16 ?l16 ?c16 ?k16 ?a17 ?l17 ?c17 ?k17 ?a18 ?l18 ?c18 ?k18 ?a19 ?l19 ?c19 ?k19 ?a20 ?l20 ?c20 ?k20 ?a21 ?l21 ?c21 ?k21 ?a22 ?l22 ?c22 ?k22 ?a23 ?l23 ?c23 ?k23 ?a24 ?l24 ?c24 ?k24 ?a25 ?l25 ?c25 ?k25 ?a26 ?l26 ?c26 ?k26 ?a27 ?l27 ?c27 ?k27 ?a28 ?l28 ?c28 ?k28 ?a29 ?l29 ?c29 ?k29 ?spO ?tkO ?aC_BadSides ?xL_BadSides ?sa_BadSides ?ga_BadSides ?gg_BadSides ?cl_BadSides ?no_BadSides_at ?a1_BadSides ?t1_BadSides ?l1_BadSides ?c1_BadSides ?k1_BadSides ?kC_BadSides ?eC_BadSides ?tC_BadSides ?hC_BadSides ?mo_BadSides ?aC_BadRuling ?xL_BadRuling ?sa_BadRuling ?ga_BadRuling ?gg_BadRuling ?cl_BadRuling ?no_BadRuling_at ?a1_BadRuling ?t1_BadRuling ?l1_BadRuling ?c1_BadRuling ?k1_BadRuling ?kC_BadRuling ?eC_BadRuling ?tC_BadRuling ?hC_BadRuling ?mo_BadRuling ?aC_Crossed ?xL_Crossed ?sa_Crossed ?ga_Crossed ?gg_Crossed ?cl_Crossed ?no_Crossed_i ?no_Crossed_j ?a1_Crossed ?t1_Crossed ?l1_Crossed ?c1_Crossed ?k1_Crossed ?kC_Crossed ?eC_Crossed ?tC_Crossed ?hC_Crossed ?mo_Crossed ?spG ?tkG ?sb_Crossed_Crossed ?z_abs ?z_bool ?z_enumerate ?z_int ?z_isinstance ?z_len ?z_list ?z_max ?z_min ?z_range ?z_str ?z_tuple ?z_zip ?c_ANSWERS ?e_ANSWERS ?c_MOST_GRADE ?c_MOST_RULINGS ?c_MOST_SIGNS
    (case a0 => k_is); (case l0 => k_is); (case c0 => k_is); (case k0 => k_is); (case a1 => k_is); (case l1 => k_is); (case c1 => k_is); (case k1 => k_is); (case a2 => k_is); (case l2 => k_is); (case c2 => k_is); (case k2 => k_is); (case a3 => k_is); (case l3 => k_is); (case c3 => k_is); (case k3 => k_is); (case a4 => k_is); (case l4 => k_is); (case c4 => k_is); (case k4 => k_is); (case a5 => k_is); (case l5 => k_is); (case c5 => k_is); (case k5 => k_is); (case a6 => k_is); (case l6 => k_is); (case c6 => k_is); (case k6 => k_is); (case a7 => k_is); (case l7 => k_is); (case c7 => k_is); (case k7 => k_is); (case a8 => k_is); (case l8 => k_is); (case c8 => k_is); (case k8 => k_is); (case a9 => k_is); (case l9 => k_is); (case c9 => k_is); (case k9 => k_is); (case a10 => k_is); (case l10 => k_is); (case c10 => k_is); (case k10 => k_is); (case a11 => k_is); (case l11 => k_is); (case c11 => k_is); (case k11 => k_is); (case aC_Book => k_is); (case a12 => k_is); (case i12 => k_is); (case l12 => k_is); (case c12 => k_is); (case k12 => k_is); (case pg_Book => k_is); (case hd_Book => k_is); (case po_Book => k_is); (case sa_Book => k_is); (case mk_Book => k_is); (case kc_Book => k_is); (case no_Book_sides => k_is); (case no_Book_rulings => k_is); (case ca_Book => k_is); (case mo_Book => k_is); (case tt_Book => k_is); (case a13 => k_is); (case l13 => k_is); (case c13 => k_is); (case k13 => k_is); (case a14 => k_is); (case l14 => k_is); (case c14 => k_is); (case k14 => k_is); (case a15 => k_is); (case l15 => k_is); (case c15 => k_is); (case k15 => k_is); (case a16 => k_is); (case l16 => k_is); (case c16 => k_is); (case k16 => k_is); (case a17 => k_is); (case l17 => k_is); (case c17 => k_is); (case k17 => k_is); (case a18 => k_is); (case l18 => k_is); (case c18 => k_is); (case k18 => k_is); (case a19 => k_is); (case l19 => k_is); (case c19 => k_is); (case k19 => k_is); (case a20 => k_is); (case l20 => k_is); (case c20 => k_is); (case k20 => k_is); (case a21 => k_is); (case l21 => k_is); (case c21 => k_is); (case k21 => k_is); (case a22 => k_is); (case l22 => k_is); (case c22 => k_is); (case k22 => k_is); (case a23 => k_is); (case l23 => k_is); (case c23 => k_is); (case k23 => k_is); (case a24 => k_is); (case l24 => k_is); (case c24 => k_is); (case k24 => k_is); (case a25 => k_is); (case l25 => k_is); (case c25 => k_is); (case k25 => k_is); (case a26 => k_is); (case l26 => k_is); (case c26 => k_is); (case k26 => k_is); (case a27 => k_is); (case l27 => k_is); (case c27 => k_is); (case k27 => k_is); (case a28 => k_is); (case l28 => k_is); (case c28 => k_is); (case k28 => k_is); (case a29 => k_is); (case l29 => k_is); (case c29 => k_is); (case k29 => k_is); (case spO => k_is); (case tkO => k_is); (case aC_BadSides => k_is); (case xL_BadSides => k_is); (case sa_BadSides => k_is); (case ga_BadSides => k_is); (case gg_BadSides => k_is); (case cl_BadSides => k_is); (case no_BadSides_at => k_is); (case a1_BadSides => k_is); (case t1_BadSides => k_is); (case l1_BadSides => k_is); (case c1_BadSides => k_is); (case k1_BadSides => k_is); (case kC_BadSides => k_is); (case eC_BadSides => k_is); (case tC_BadSides => k_is); (case hC_BadSides => k_is); (case mo_BadSides => k_is); (case aC_BadRuling => k_is); (case xL_BadRuling => k_is); (case sa_BadRuling => k_is); (case ga_BadRuling => k_is); (case gg_BadRuling => k_is); (case cl_BadRuling => k_is); (case no_BadRuling_at => k_is); (case a1_BadRuling => k_is); (case t1_BadRuling => k_is); (case l1_BadRuling => k_is); (case c1_BadRuling => k_is); (case k1_BadRuling => k_is); (case kC_BadRuling => k_is); (case eC_BadRuling => k_is); (case tC_BadRuling => k_is); (case hC_BadRuling => k_is); (case mo_BadRuling => k_is); (case aC_Crossed => k_is); (case xL_Crossed => k_is); (case sa_Crossed => k_is); (case ga_Crossed => k_is); (case gg_Crossed => k_is); (case cl_Crossed => k_is); (case no_Crossed_i => k_is); (case no_Crossed_j => k_is); (case a1_Crossed => k_is); (case t1_Crossed => k_is); (case l1_Crossed => k_is); (case c1_Crossed => k_is); (case k1_Crossed => k_is); (case kC_Crossed => k_is); (case eC_Crossed => k_is); (case tC_Crossed => k_is); (case hC_Crossed => k_is); (case mo_Crossed => k_is); (case spG => k_is); (case tkG => k_is); (case sb_Crossed_Crossed => first | rfl | k_is); (case z_abs => k_is); (case z_bool => k_is); (case z_enumerate => k_is); (case z_int => k_is); (case z_isinstance => k_is); (case z_len => k_is); (case z_list => k_is); (case z_max => k_is); (case z_min => k_is); (case z_range => k_is); (case z_str => k_is); (case z_tuple => k_is); (case z_zip => k_is); (case c_ANSWERS => k_is); (case e_ANSWERS => k_is); (case c_MOST_GRADE => k_is); (case c_MOST_RULINGS => k_is); (case c_MOST_SIGNS => k_is)


