import PyProof.Rows.All
import HandS.ForMost
import HandS.TupAny
import PyProof.StrBlock2
import HandS.Deep
import HandS.IsInst
import HandS.Wide
import HandS.SortInts
import HandS.Style
import HandS.Flow
import HandS.Conv
import HandS.Iter
import PyProof.Draws
import PyProof.EnumMake
import HandS.Exc
import HandS.ExcCtx
import HandS.ExcOwn
import HandS.ExcInit
import HandS.ExcInitHot
import HandS.ExcField
import HandS.ExcIs
import HandS.HotCalls
import HandS.WordsExc
import HandS.Comp
import HandS.Gcd
import HandS.RaiseMore
import KE.SortData
import HandS.TupLe
import HandS.Dict
import HandS.More
import HandS.WordsDict
import KE.DataMinMax
import HandS.SortKw
import PySem.Challenge.RW_rulingstold_k83_whole_ends_and_rounds
set_option Elab.async false
set_option linter.all false
set_option maxRecDepth 100000
/-! VL0: values without addresses (D), what it is that a heap bears one (rep), environments by slots (Rel), how a heap goes on (Evo). -/
namespace VL
open PySem PySem.Spec PyProof.Rows L2

inductive D where
  | non | bl (b : Bool) | int (i : Int) | str (l : List Nat) | tup (l : List D) | lst (l : List D)
  | dct (l : List (D × D)) | lck (l : List (D × D)) | obj (c : String) (l : List (String × D)) | scr (l : List Int) | exc (c : String) (l : List (String × D))
  deriving Inhabited

def toKey : D → Option Key
  | .int i => some (.inl i)
  | .str l => some (.inr ⟨l.toArray⟩)
  | _ => none
def toKeys : List D → Option (List Key)
  | [] => some []
  | d :: ds => match toKey d, toKeys ds with
    | some k, some ks => some (k :: ks)
    | _, _ => none
def toKeyT : D → Option (List Key)
  | .tup ds => toKeys ds
  | _ => none

section
variable (K : PySem.W.Frag) (mg : Str → Option Value) (F : Hp)
mutual
def rep : D → V → Prop
  | .non, v => v = .non
  | .bl b, v => v = .bl b
  | .int i, v => v = .int i
  | .str l, v => v = .str ⟨l.toArray⟩
  | .tup ds, v => ∃ p vs, v = .ref p ∧ SqT K F p vs ∧ reps ds vs
  | .lst ds, v => ∃ p vs, v = .ref p ∧ F p = some (.lst vs) ∧ reps ds vs
  | .scr ns, v => ∃ p, v = .ref p ∧ SqL K F p (ns.map V.int)
  | .exc _ _, v => ∃ p, v = .ref p
  | .dct kvs, v => ∃ p xs, v = .ref p ∧ F p = some (.dK xs) ∧ repsK kvs xs
  | .lck kvs, v => ∃ p z xs, v = .ref p ∧ F p = some (.frz z (.dK xs)) ∧ repsK kvs xs
  | .obj c fs, v => ∃ p C dx xs, v = .ref p ∧ mg (Str.ofString c) = some (.ref C) ∧ F p = some (.ins C dx xs) ∧ repsF fs xs
def reps : List D → List V → Prop
  | [], vs => vs = []
  | d :: ds, vs => ∃ v r, vs = v :: r ∧ rep d v ∧ reps ds r
def repsK : List (D × D) → List (Key × V) → Prop
  | [], vs => vs = []
  | p :: ds, vs => ∃ k v r, vs = (k, v) :: r ∧ toKey p.1 = some k ∧ rep p.2 v ∧ repsK ds r
def repsT : List (D × D) → List (List Key × V) → Prop
  | [], vs => vs = []
  | p :: ds, vs => ∃ k v r, vs = (k, v) :: r ∧ toKeyT p.1 = some k ∧ rep p.2 v ∧ repsT ds r
def repsF : List (String × D) → List (Str × V) → Prop
  | [], vs => vs = []
  | p :: ds, vs => ∃ v r, vs = (Str.ofString p.1, v) :: r ∧ rep p.2 v ∧ repsF ds r
end
end

/-- has an object of its own that may be changed -/
def cellD : D → Bool
  | .lst _ => true
  | .dct _ => true
  | .obj _ _ => true
  | _ => false

/-- an object's content is the datum's -/
def cont (K : PySem.W.Frag) (mg : Str → Option Value) (F : Hp) : D → HO → Prop
  | .lst ds, o => ∃ vs, o = .lst vs ∧ reps K mg F ds vs
  | .dct kvs, o => ∃ xs, o = .dK xs ∧ repsK K mg F kvs xs
  | .obj c fs, o => ∃ C dx xs, mg (Str.ofString c) = some (.ref C) ∧ o = .ins C dx xs ∧ repsF K mg F fs xs
  | _, _ => False

section
variable {K : PySem.W.Frag} {mg : Str → Option Value} {F F' H H' : Hp}
theorem rep_cell {d : D} {v : V} (h : cellD d = true) : rep K mg F d v ↔ ∃ p o, v = .ref p ∧ F p = some o ∧ cont K mg F d o := by
  cases d <;> first | (cases h; done) | skip
  · simp only [rep, cont]
    constructor
    · rintro ⟨p, vs, e, h1, h2⟩; exact ⟨p, _, e, h1, vs, rfl, h2⟩
    · rintro ⟨p, o, e, h1, vs, rfl, h2⟩; exact ⟨p, vs, e, h1, h2⟩
  · simp only [rep, cont]
    constructor
    · rintro ⟨p, xs, e, h1, h2⟩; exact ⟨p, _, e, h1, xs, rfl, h2⟩
    · rintro ⟨p, o, e, h1, xs, rfl, h2⟩; exact ⟨p, xs, e, h1, h2⟩
  · simp only [rep, cont]
    constructor
    · rintro ⟨p, C, dx, xs, e, h0, h1, h2⟩; exact ⟨p, _, e, h1, C, dx, xs, h0, rfl, h2⟩
    · rintro ⟨p, o, e, h1, C, dx, xs, h0, rfl, h2⟩; exact ⟨p, C, dx, xs, e, h0, h1, h2⟩

theorem Same.sqT {a : Addr} {xs : List V} (e : Same F F') (h : SqT K F a xs) : SqT K F' a xs := by
  rcases h with (h | ⟨o, h⟩) | h
  · exact .inl (.inl (e _ _ h))
  · exact .inl (.inr ⟨o, e _ _ h⟩)
  · exact .inr h
mutual
theorem rep_mono (s : Same F F') : ∀ {d : D} {v : V}, rep K mg F d v → rep K mg F' d v
  | .non, _, h => by simpa only [rep] using h
  | .bl _, _, h => by simpa only [rep] using h
  | .int _, _, h => by simpa only [rep] using h
  | .str _, _, h => by simpa only [rep] using h
  | .tup ds, _, h => by
    simp only [rep] at h ⊢
    obtain ⟨p, vs, e, h1, h2⟩ := h
    exact ⟨p, vs, e, Same.sqT s h1, reps_mono s h2⟩
  | .lst ds, _, h => by
    simp only [rep] at h ⊢
    obtain ⟨p, vs, e, h1, h2⟩ := h
    exact ⟨p, vs, e, s _ _ h1, reps_mono s h2⟩
  | .exc _ _, _, h => by simpa only [rep] using h
  | .scr ns, _, h => by
    simp only [rep] at h ⊢
    obtain ⟨p, e, h1⟩ := h
    exact ⟨p, e, L2.Same.seq s h1⟩
  | .dct kvs, _, h => by
    simp only [rep] at h ⊢
    obtain ⟨p, xs, e, h1, h2⟩ := h
    exact ⟨p, xs, e, s _ _ h1, repsK_mono s h2⟩
  | .lck kvs, _, h => by
    simp only [rep] at h ⊢
    obtain ⟨p, z, xs, e, h1, h2⟩ := h
    exact ⟨p, z, xs, e, s _ _ h1, repsK_mono s h2⟩
  | .obj c fs, _, h => by
    simp only [rep] at h ⊢
    obtain ⟨p, C, dx, xs, e, h0, h1, h2⟩ := h
    exact ⟨p, C, dx, xs, e, h0, s _ _ h1, repsF_mono s h2⟩
theorem reps_mono (s : Same F F') : ∀ {ds : List D} {vs : List V}, reps K mg F ds vs → reps K mg F' ds vs
  | [], _, h => by simpa only [reps] using h
  | d :: ds, _, h => by
    simp only [reps] at h ⊢
    obtain ⟨v, r, e, h1, h2⟩ := h
    exact ⟨v, r, e, rep_mono s h1, reps_mono s h2⟩
theorem repsK_mono (s : Same F F') : ∀ {ds : List (D × D)} {vs : List (Key × V)}, repsK K mg F ds vs → repsK K mg F' ds vs
  | [], _, h => by simpa only [repsK] using h
  | (k, d) :: ds, _, h => by
    simp only [repsK] at h ⊢
    obtain ⟨k, v, r, e, h0, h1, h2⟩ := h
    exact ⟨k, v, r, e, h0, rep_mono s h1, repsK_mono s h2⟩
theorem repsT_mono (s : Same F F') : ∀ {ds : List (D × D)} {vs : List (List Key × V)}, repsT K mg F ds vs → repsT K mg F' ds vs
  | [], _, h => by simpa only [repsT] using h
  | (k, d) :: ds, _, h => by
    simp only [repsT] at h ⊢
    obtain ⟨k, v, r, e, h0, h1, h2⟩ := h
    exact ⟨k, v, r, e, h0, rep_mono s h1, repsT_mono s h2⟩
theorem repsF_mono (s : Same F F') : ∀ {ds : List (String × D)} {vs : List (Str × V)}, repsF K mg F ds vs → repsF K mg F' ds vs
  | [], _, h => by simpa only [repsF] using h
  | (k, d) :: ds, _, h => by
    simp only [repsF] at h ⊢
    obtain ⟨v, r, e, h1, h2⟩ := h
    exact ⟨v, r, e, rep_mono s h1, repsF_mono s h2⟩
end
theorem cont_mono (s : Same F F') {d : D} {o : HO} (h : cont K mg F d o) : cont K mg F' d o := by
  cases d <;> simp only [cont] at h ⊢ <;> first | exact h.elim | skip
  · obtain ⟨vs, e, h⟩ := h; exact ⟨vs, e, reps_mono s h⟩
  · obtain ⟨xs, e, h⟩ := h; exact ⟨xs, e, repsK_mono s h⟩
  · obtain ⟨C, dx, xs, h0, e, h⟩ := h; exact ⟨C, dx, xs, h0, e, repsF_mono s h⟩
theorem reps_length : ∀ {ds : List D} {vs : List V}, reps K mg F ds vs → vs.length = ds.length
  | [], _, h => by simp only [reps] at h; subst h; rfl
  | d :: ds, _, h => by
    simp only [reps] at h
    obtain ⟨v, r, rfl, h1, h2⟩ := h
    simp only [List.length_cons, reps_length h2]
theorem reps_get : ∀ {ds : List D} {vs : List V} {i : Nat} {d : D}, reps K mg F ds vs → ds[i]? = some d → ∃ v, vs[i]? = some v ∧ rep K mg F d v
  | [], _, _, _, _, e => by simp at e
  | d :: ds, _, 0, _, h, e => by
    simp only [reps] at h
    obtain ⟨v, r, rfl, h1, h2⟩ := h
    simp at e; subst e
    exact ⟨v, rfl, h1⟩
  | d :: ds, _, i + 1, _, h, e => by
    simp only [reps] at h
    obtain ⟨v, r, rfl, h1, h2⟩ := h
    obtain ⟨w, h3, h4⟩ := reps_get h2 (by simpa using e)
    exact ⟨w, by simpa using h3, h4⟩
theorem reps_get' : ∀ {ds : List D} {vs : List V} {i : Nat} {v : V}, reps K mg F ds vs → vs[i]? = some v → ∃ d, ds[i]? = some d ∧ rep K mg F d v := fun {ds vs i v} h e => by
  have hl := reps_length h
  have hi : i < vs.length := by
    rcases Nat.lt_or_ge i vs.length with q | q
    · exact q
    · rw [List.getElem?_eq_none q] at e; cases e
  have hi' : i < ds.length := by omega
  obtain ⟨w, h1, h2⟩ := reps_get h (List.getElem?_eq_getElem hi')
  rw [e] at h1; cases h1
  exact ⟨_, List.getElem?_eq_getElem hi', h2⟩
theorem reps_append : ∀ {ds es : List D} {vs us : List V}, reps K mg F ds vs → reps K mg F es us → reps K mg F (ds ++ es) (vs ++ us)
  | [], _, _, _, h, k => by simp only [reps] at h; subst h; simpa using k
  | d :: ds, _, _, _, h, k => by
    simp only [reps] at h
    obtain ⟨v, r, rfl, h1, h2⟩ := h
    show reps K mg F (d :: (ds ++ _)) (v :: (r ++ _))
    simp only [reps]
    exact ⟨v, _, rfl, h1, reps_append h2 k⟩
theorem reps_one {d : D} {v : V} (h : rep K mg F d v) : reps K mg F [d] [v] := by
  simp only [reps]; exact ⟨v, [], rfl, h, rfl⟩
theorem reps_cons {d : D} {v : V} {ds : List D} {vs : List V} (h : rep K mg F d v) (k : reps K mg F ds vs) : reps K mg F (d :: ds) (v :: vs) := by
  simp only [reps]; exact ⟨v, vs, rfl, h, k⟩
theorem reps_nil : reps K mg F [] [] := by simp only [reps]
theorem reps_drop : ∀ {ds : List D} {vs : List V} (n : Nat), reps K mg F ds vs → reps K mg F (ds.drop n) (vs.drop n)
  | _, _, 0, h => h
  | [], _, n + 1, h => by simp only [reps] at h; subst h; simpa using reps_nil
  | d :: ds, _, n + 1, h => by
    simp only [reps] at h
    obtain ⟨v, r, rfl, h1, h2⟩ := h
    simpa using reps_drop n h2
theorem reps_take : ∀ {ds : List D} {vs : List V} (n : Nat), reps K mg F ds vs → reps K mg F (ds.take n) (vs.take n)
  | _, _, 0, h => by simpa using reps_nil
  | [], _, n + 1, h => by simp only [reps] at h; subst h; simpa using reps_nil
  | d :: ds, _, n + 1, h => by
    simp only [reps] at h
    obtain ⟨v, r, rfl, h1, h2⟩ := h
    simpa using reps_cons h1 (reps_take n h2)
theorem reps_set : ∀ {ds : List D} {vs : List V} {d : D} {v : V} (n : Nat), reps K mg F ds vs → rep K mg F d v → reps K mg F (ds.set n d) (vs.set n v)
  | [], _, _, _, n, h, _ => by simp only [reps] at h; subst h; simpa using reps_nil
  | d :: ds, _, _, _, 0, h, k => by
    simp only [reps] at h
    obtain ⟨v, r, rfl, h1, h2⟩ := h
    simpa using reps_cons k h2
  | d :: ds, _, _, _, n + 1, h, k => by
    simp only [reps] at h
    obtain ⟨v, r, rfl, h1, h2⟩ := h
    simpa using reps_cons h1 (reps_set n h2 k)
theorem reps_reverse : ∀ {ds : List D} {vs : List V}, reps K mg F ds vs → reps K mg F ds.reverse vs.reverse
  | [], _, h => by simp only [reps] at h; subst h; simpa using reps_nil
  | d :: ds, _, h => by
    simp only [reps] at h
    obtain ⟨v, r, rfl, h1, h2⟩ := h
    simp only [List.reverse_cons]
    exact reps_append (reps_reverse h2) (reps_one h1)
theorem reps_ints : ∀ {ns : List Int} {vs : List V}, reps K mg F (ns.map D.int) vs → vs = ns.map V.int
  | [], _, h => by simpa only [reps, List.map_nil] using h
  | n :: ns, _, h => by
    simp only [List.map_cons, reps] at h
    obtain ⟨v, r, rfl, h1, h2⟩ := h
    simp only [rep] at h1
    subst h1
    rw [reps_ints h2, List.map_cons]
theorem ints_reps : ∀ {ns : List Int}, reps K mg F (ns.map D.int) (ns.map V.int)
  | [] => by simpa using reps_nil
  | n :: ns => by
    simp only [List.map_cons]
    exact reps_cons (by simp only [rep]) ints_reps
end

/-! ### environments -/
inductive Md where
  | fz | own | brw | io (p : Addr) | xc (a : Addr) (cls : Value) (d : Option Addr)
def Md.mut : Md → Bool
  | .own => true
  | .io _ => true
  | _ => false
abbrev St := L2.St
abbrev Env := List (Option D)
abbrev Gm := List Md

/-- slot i holds, by a mode that may change it, the object at p -/
def OwnAt (Γ : Gm) (ρ : Env) (σ : St) (i : Nat) (p : Addr) : Prop :=
  ∃ m d, Γ[i]? = some m ∧ m.mut = true ∧ ρ[i]? = some (some d) ∧ cellD d = true ∧ σ[i]? = some (some (.ref p))
/-- slot i holds, to be read only, the object at p -/
def BrwAt (Γ : Gm) (ρ : Env) (σ : St) (i : Nat) (p : Addr) : Prop :=
  ∃ d, Γ[i]? = some .brw ∧ ρ[i]? = some (some d) ∧ cellD d = true ∧ σ[i]? = some (some (.ref p))
/-- a footprint: what may be changed, what is read only (by slots) -/
structure Ft where
  o : Addr → Prop
  b : Nat → Addr → Prop
def Own (Γ : Gm) (ρ : Env) (σ : St) : Ft := ⟨fun p => ∃ i, OwnAt Γ ρ σ i p, BrwAt Γ ρ σ⟩

/-- a value that may be read while the objects in O are changed -/
def RdN (K : PySem.W.Frag) (mg : Str → Option Value) (O : Ft) (H F : Hp) (v : V) (d : D) : Prop :=
  if cellD d = true then ∃ p o, v = .ref p ∧ H p = some o ∧ cont K mg F d o ∧ (F p = some o ∨ (F p = none ∧ ¬ O.o p)) else rep K mg F d v
/-- a cell of one's own -/
def Cell (K : PySem.W.Frag) (mg : Str → Option Value) (H F : Hp) (v : V) (d : D) : Prop :=
  if cellD d = true then ∃ p o, v = .ref p ∧ H p = some o ∧ cont K mg F d o ∧ F p = none else rep K mg F d v
/-- the exception of the class at cls, its dict at d (None: it has none) -/
def XRep (K : PySem.W.Frag) (mg : Str → Option Value) (F : Hp) (c : String) (fs : List (String × D)) (cls : Value) (d : Option Addr) : Prop :=
  ∃ C, mg (Str.ofString c) = some (.ref C) ∧ cls = .ref C ∧ ((fs = [] ∧ d = none) ∨ ∃ dd vs, d = some dd ∧ F dd = some (.xd vs) ∧ repsF K mg F fs vs)
theorem XRep.mono {K : PySem.W.Frag} {mg : Str → Option Value} {F F' : Hp} {c : String} {fs : List (String × D)} {cls : Value} {d : Option Addr} (s : Same F F') (h : XRep K mg F c fs cls d) : XRep K mg F' c fs cls d := by
  obtain ⟨C, h1, h2, h | ⟨dd, vs, h3, h4, h5⟩⟩ := h
  · exact ⟨C, h1, h2, .inl h⟩
  · exact ⟨C, h1, h2, .inr ⟨dd, vs, h3, s _ _ h4, repsF_mono s h5⟩⟩
def SlotOk (K : PySem.W.Frag) (mg : Str → Option Value) (O : Ft) (H F : Hp) : Md → V → D → Prop
  | .fz, v, d => rep K mg F d v
  | .own, v, d => Cell K mg H F v d
  | .io p, v, d => v = .ref p ∧ cellD d = true ∧ Cell K mg H F v d
  | .brw, v, d => RdN K mg O H F v d
  | .xc a cls x, v, d => v = .ref a ∧ ∃ c fs, d = .exc c fs ∧ XRep K mg F c fs cls x
theorem xc_mono {K : PySem.W.Frag} {mg : Str → Option Value} {F F' H H' : Hp} {O O' : Ft} {a : Addr} {cls : Value} {x : Option Addr} {v : V} {d : D} (s : Same F F') (h : SlotOk K mg O H F (.xc a cls x) v d) : SlotOk K mg O' H' F' (.xc a cls x) v d := by
  obtain ⟨h1, c, fs, h2, h3⟩ := h
  exact ⟨h1, c, fs, h2, h3.mono s⟩

structure Rel (K : PySem.W.Frag) (mg : Str → Option Value) (Γ : Gm) (ρ : Env) (σ : St) (H F : Hp) : Prop where
  lr : ρ.length = σ.length
  lg : Γ.length = σ.length
  slot : ∀ (i : Nat) (m : Md) (d : D), Γ[i]? = some m → ρ[i]? = some (some d) → ∃ v, σ[i]? = some (some v) ∧ SlotOk K mg (Own Γ ρ σ) H F m v d
  inj : ∀ i j p, OwnAt Γ ρ σ i p → OwnAt Γ ρ σ j p → i = j
  sub : Same F H

/-- how a heap goes on: O what may be changed, O' afterwards -/
structure Evo (O : Ft) (H F : Hp) (O' : Ft) (H' F' : Hp) : Prop where
  sf : Same F F'
  sh : Same F' H'
  kp : ∀ p o, H p = some o → F p = none → ¬ O.o p → H' p = some o ∧ F' p = none
  dom : ∀ p, H' p = none → H p = none
  ow : ∀ p, O'.o p → O.o p ∨ H p = none
  ob : ∀ j p, O'.b j p → O.b j p

theorem Evo.refl {O : Ft} {H F : Hp} (s : Same F H) : Evo O H F O H F :=
  ⟨Same.refl _, s, fun _ _ h f _ => ⟨h, f⟩, fun _ h => h, fun _ h => .inl h, fun _ _ h => h⟩
theorem Evo.trans {O O1 O2 : Ft} {H F H1 F1 H2 F2 : Hp} (a : Evo O H F O1 H1 F1) (b : Evo O1 H1 F1 O2 H2 F2) : Evo O H F O2 H2 F2 where
  sf := a.sf.trans b.sf
  sh := b.sh
  kp := fun p o h f n => by
    obtain ⟨h1, f1⟩ := a.kp p o h f n
    refine b.kp p o h1 f1 fun q => ?_
    rcases a.ow p q with z | z
    · exact n z
    · rw [h] at z; cases z
  dom := fun p h => a.dom p (b.dom p h)
  ow := fun p q => by
    rcases b.ow p q with z | z
    · exact a.ow p z
    · exact .inr (a.dom p z)
  ob := fun j p h => a.ob j p (b.ob j p h)
/-- fewer may be changed -/
theorem Evo.mono {O O0 O1 O1' : Ft} {H F H1 F1 : Hp} (a : Evo O H F O1 H1 F1) (h : ∀ p, O.o p → O0.o p) (h' : ∀ p, O1'.o p → O0.o p ∨ H p = none) (h2 : ∀ j p, O1'.b j p → O0.b j p) : Evo O0 H F O1' H1 F1 :=
  ⟨a.sf, a.sh, fun p o e f n => a.kp p o e f fun q => n (h p q), a.dom, h', h2⟩

section
variable {K : PySem.W.Frag} {mg : Str → Option Value} {O O' : Ft} {H F H' F' : Hp} {v : V} {d : D}
theorem RdN.evo (r : RdN K mg O H F v d) (e : Evo O H F O' H' F') : RdN K mg O' H' F' v d := by
  unfold RdN at r ⊢
  split
  · rename_i h
    rw [if_pos h] at r
    obtain ⟨p, o, e1, h1, c, q⟩ := r
    rcases q with q | ⟨q1, q2⟩
    · exact ⟨p, o, e1, e.sh _ _ (e.sf _ _ q), cont_mono e.sf c, .inl (e.sf _ _ q)⟩
    · obtain ⟨k1, k2⟩ := e.kp p o h1 q1 q2
      refine ⟨p, o, e1, k1, cont_mono e.sf c, .inr ⟨k2, fun z => ?_⟩⟩
      rcases e.ow p z with w | w
      · exact q2 w
      · rw [h1] at w; cases w
  · rename_i h
    rw [if_neg h] at r
    exact rep_mono e.sf r
theorem rep.rdN (s : Same F H) (r : rep K mg F d v) : RdN K mg O H F v d := by
  unfold RdN
  split
  · rename_i h
    obtain ⟨p, o, e, h1, c⟩ := (rep_cell h).mp r
    exact ⟨p, o, e, s _ _ h1, c, .inl h1⟩
  · exact r
theorem Cell.rdN (r : Cell K mg H F v d) (n : ∀ p, v = .ref p → cellD d = true → ¬ O.o p) : RdN K mg O H F v d := by
  unfold RdN; unfold Cell at r
  split
  · rename_i h
    rw [if_pos h] at r
    obtain ⟨p, o, e, h1, c, f⟩ := r
    exact ⟨p, o, e, h1, c, .inr ⟨f, n p e h⟩⟩
  · rename_i h
    rw [if_neg h] at r
    exact r
/-- what reading asks: the object as it stands -/
def Rdd (K : PySem.W.Frag) (mg : Str → Option Value) (H F : Hp) (v : V) (d : D) : Prop :=
  if cellD d = true then ∃ p o, v = .ref p ∧ H p = some o ∧ cont K mg F d o else rep K mg F d v
theorem RdN.rdd (r : RdN K mg O H F v d) : Rdd K mg H F v d := by
  unfold RdN at r; unfold Rdd
  split
  · rename_i h
    rw [if_pos h] at r
    obtain ⟨p, o, e, h1, c, _⟩ := r
    exact ⟨p, o, e, h1, c⟩
  · rename_i h
    rw [if_neg h] at r
    exact r
theorem Cell.rdd (r : Cell K mg H F v d) : Rdd K mg H F v d := by
  unfold Cell at r; unfold Rdd
  split
  · rename_i h
    rw [if_pos h] at r
    obtain ⟨p, o, e, h1, c, _⟩ := r
    exact ⟨p, o, e, h1, c⟩
  · rename_i h
    rw [if_neg h] at r
    exact r
theorem rep.rdd (s : Same F H) (r : rep K mg F d v) : Rdd K mg H F v d := RdN.rdd (O := ⟨fun _ => False, fun _ _ => False⟩) (r.rdN s)
theorem SlotOk.rdd {m : Md} (s : Same F H) (r : SlotOk K mg O H F m v d) : Rdd K mg H F v d := by
  cases m with
  | fz => exact rep.rdd s r
  | own => exact Cell.rdd r
  | brw => exact RdN.rdd r
  | io p => exact Cell.rdd r.2.2
  | xc a c x =>
    obtain ⟨h1, c, fs, h2, h3⟩ := r
    subst h2
    unfold Rdd
    rw [if_neg (show ¬ cellD (.exc c fs) = true from fun h => nomatch h)]
    simp only [rep]
    exact ⟨_, h1⟩
end
end VL

set_option Elab.async false
set_option linter.all false
set_option maxRecDepth 100000
/-! VL1: evaluators, judgements, the base. -/
namespace VL
open PySem PySem.Spec PyProof.Rows L2

structure Exn where
  cls : String
  fs : List (String × D)
inductive Res (α : Type) where
  | ok (a : α) | exn (x : Exn) | bad
def Res.bind {α β : Type} : Res α → (α → Res β) → Res β
  | .ok a, f => f a
  | .exn x, _ => .exn x
  | .bad, _ => .bad
@[simp] theorem Res.bind_ok {α β : Type} (a : α) (f : α → Res β) : Res.bind (.ok a) f = f a := rfl
@[simp] theorem Res.bind_bad {α β : Type} (f : α → Res β) : Res.bind .bad f = .bad := rfl
@[simp] theorem Res.bind_exn {α β : Type} (x : Exn) (f : α → Res β) : Res.bind (.exn x) f = .exn x := rfl
def Res.sat {α : Type} (r : Res α) (P : α → Prop) (E : Exn → Prop) : Prop := match r with
  | .ok a => P a
  | .exn x => E x
  | .bad => False
theorem Res.sat_bind {α β : Type} {r : Res α} {f : α → Res β} {P : β → Prop} {E : Exn → Prop} : (r.bind f).sat P E ↔ r.sat (fun a => (f a).sat P E) E := by
  cases r <;> exact Iff.rfl
theorem Res.sat_imp {α : Type} {r : Res α} {P P' : α → Prop} {E E' : Exn → Prop} (h : r.sat P E) (hP : ∀ a, r = .ok a → P a → P' a) (hE : ∀ x, E x → E' x) : r.sat P' E' := by
  cases r with
  | ok a => exact hP a rfl h
  | exn x => exact hE x h
  | bad => exact h
theorem Res.sat_ok {α : Type} {a : α} {P : α → Prop} {E : Exn → Prop} : (Res.ok a).sat P E ↔ P a := Iff.rfl
abbrev Ev := Env → Res (D × Env)
abbrev Et := Env → Res (Bool × Env)
inductive Fl where
  | next (ρ : Env) | ret (d : D) (ρ : Env) | brk (ρ : Env) | cont (ρ : Env)
abbrev Es := Env → Res Fl
/-- a wish about exceptions -/
abbrev WE := Exn → St → Hp → Hp → Prop

def gv (ρ : Env) (i : Nat) : Res D := match ρ[i]? with
  | some (some d) => .ok d
  | _ => .bad

/-- a new or old value: fz: of the frozen part; own: an object of its own, just made -/
def ValOk (K : PySem.W.Frag) (mg : Str → Option Value) (m : Md) (O' : Ft) (H H' F' : Hp) (v : V) (d : D) : Prop :=
  match m with
  | .own => Cell K mg H' F' v d ∧ (cellD d = true → ∀ p, v = .ref p → H p = none ∧ ¬ O'.o p)
  | _ => rep K mg F' d v

/-- what an exception must meet, from here on -/
def exW (W : WE) (Γ : Gm) (ρ : Env) (σ : St) (H F : Hp) : Exn → Prop := fun x => ∀ H' F' O', Evo (Own Γ ρ σ) H F O' H' F' → W x σ H' F'
theorem exW.evo {W : WE} {Γ Γ' : Gm} {ρ ρ' : Env} {σ : St} {H F H' F' : Hp} {x : Exn} (h : exW W Γ ρ σ H F x) (e : Evo (Own Γ ρ σ) H F (Own Γ' ρ' σ) H' F') : exW W Γ' ρ' σ H' F' x :=
  fun H2 F2 O2 e2 => h H2 F2 O2 (e.trans e2)
section
variable (X : Cx) (Γ Γ' : Gm) (W : WE)
def trE (m : Md) (ev : Ev) : TE := fun σ H Q => ∃ ρ F, Rel X.K X.mg Γ ρ σ H F ∧ (ev ρ).sat
  (fun r => ∀ v H' F', Evo (Own Γ ρ σ) H F (Own Γ' r.2 σ) H' F' → Rel X.K X.mg Γ' r.2 σ H' F' → ValOk X.K X.mg m (Own Γ' r.2 σ) H H' F' v r.1 → Q v H') (exW W Γ ρ σ H F)
/-- an expression by its evaluator -/
abbrev VE (e : Expr) (m : Md) (ev : Ev) : Prop := PE X e (trE X Γ Γ' W m ev)
def trT (ev : Et) : TT := fun σ H Q => ∃ ρ F, Rel X.K X.mg Γ ρ σ H F ∧ (ev ρ).sat
  (fun r => ∀ H' F', Evo (Own Γ ρ σ) H F (Own Γ' r.2 σ) H' F' → Rel X.K X.mg Γ' r.2 σ H' F' → Q r.1 H') (exW W Γ ρ σ H F)
abbrev VT (e : Expr) (ev : Et) : Prop := PT X e (trT X Γ Γ' W ev)
end

inductive Opd where
  | slot (i : Nat) | ex (f : Ev)
def Opd.run : Opd → Env → Res (Option D × Env)
  | .slot i, ρ => (gv ρ i).bind fun _ => .ok (none, ρ)
  | .ex f, ρ => (f ρ).bind fun r => .ok (some r.1, r.2)
def Opd.fin : Opd → Option D → Env → Res D
  | .slot i, _, ρ => gv ρ i
  | .ex _, some d, _ => .ok d
  | .ex _, none, _ => .bad
def BOk (K : PySem.W.Frag) (mg : Str → Option Value) (o : Opd) (od : Option D) (O : Ft) (σ : St) (H F : Hp) (v : V) : Prop :=
  match o, od with
  | .slot i, _ => σ[i]? = some (some v)
  | .ex _, some d => RdN K mg O H F v d
  | .ex _, none => False
section
variable (X : Cx) (Γ Γ' : Gm) (W : WE)
def trB (o : Opd) : TE := fun σ H Q => ∃ ρ F, Rel X.K X.mg Γ ρ σ H F ∧ (o.run ρ).sat
  (fun r => ∀ v H' F', Evo (Own Γ ρ σ) H F (Own Γ' r.2 σ) H' F' → Rel X.K X.mg Γ' r.2 σ H' F' → BOk X.K X.mg o r.1 (Own Γ' r.2 σ) σ H' F' v → Q v H') (exW W Γ ρ σ H F)
abbrev VB (e : Expr) (o : Opd) : Prop := PE X e (trB X Γ Γ' W o)
end

section
variable {K : PySem.W.Frag} {mg : Str → Option Value} {O O' : Ft} {H F H' F' H2 F2 : Hp} {v : V} {d : D} {Γ Γ' Γ2 : Gm} {ρ ρ' ρ2 : Env} {σ : St} {o : Opd} {od : Option D}
theorem gv_ok {i : Nat} (h : gv ρ i = .ok d) : ρ[i]? = some (some d) := by
  unfold gv at h
  split at h
  · rename_i e; injection h with h; subst h; exact e
  · cases h
theorem gv_cases (ρ : Env) (i : Nat) : (∃ d, gv ρ i = .ok d ∧ ρ[i]? = some (some d)) ∨ gv ρ i = .bad := by
  unfold gv
  split
  · rename_i d e; exact .inl ⟨d, rfl, e⟩
  · exact .inr rfl
theorem Rel.gm (r : Rel K mg Γ ρ σ H F) {i : Nat} (h : ρ[i]? = some (some d)) : ∃ m, Γ[i]? = some m := by
  have h1 : i < ρ.length := by
    rcases Nat.lt_or_ge i ρ.length with q | q
    · exact q
    · rw [List.getElem?_eq_none q] at h; cases h
  have h2 : i < Γ.length := by rw [r.lg, ← r.lr]; exact h1
  exact ⟨_, List.getElem?_eq_getElem h2⟩
theorem Rel.rdd (r : Rel K mg Γ ρ σ H F) {i : Nat} (h : ρ[i]? = some (some d)) : ∃ v, σ[i]? = some (some v) ∧ Rdd K mg H F v d := by
  obtain ⟨m, hm⟩ := r.gm h
  obtain ⟨v, h1, h2⟩ := r.slot i m d hm h
  exact ⟨v, h1, h2.rdd r.sub⟩
theorem BOk.fin (r : Rel K mg Γ2 ρ2 σ H2 F2) (b : BOk K mg o od O σ H F v) (e : Evo O H F O' H2 F2) (h : o.fin od ρ2 = .ok d) : Rdd K mg H2 F2 v d := by
  cases o with
  | slot i =>
    obtain ⟨w, h1, h2⟩ := r.rdd (gv_ok h)
    have b' : σ[i]? = some (some v) := b
    rw [b'] at h1; cases h1
    exact h2
  | ex f =>
    cases od with
    | none => exact False.elim b
    | some d' =>
      have h' : Res.ok d' = Res.ok d := h
      cases h'
      exact (RdN.evo b e).rdd
theorem ValOk.rdN (r : Rel K mg Γ ρ σ H' F') {m : Md} (h : ValOk K mg m (Own Γ ρ σ) H H' F' v d) : RdN K mg (Own Γ ρ σ) H' F' v d := by
  cases m <;> first | exact rep.rdN r.sub h | exact Cell.rdN h.1 fun p e c => (h.2 c p e).2
end

/-- only more is made -/
structure Grow (H F H' F' : Hp) : Prop where
  sf : Same F F'
  sh : Same F' H'
  kp : ∀ p o, H p = some o → H' p = some o
  fr : ∀ p o, H p = some o → F p = none → F' p = none
section
variable {K : PySem.W.Frag} {mg : Str → Option Value} {O O' : Ft} {H F H' F' H2 F2 : Hp} {v : V} {d : D} {Γ Γ' Γ2 : Gm} {ρ ρ' ρ2 : Env} {σ : St} {o : HO} {p : Addr}
theorem Grow.refl (s : Same F H) : Grow H F H F := ⟨Same.refl _, s, fun _ _ h => h, fun _ _ _ h => h⟩
theorem Grow.trans (a : Grow H F H' F') (b : Grow H' F' H2 F2) : Grow H F H2 F2 :=
  ⟨a.sf.trans b.sf, b.sh, fun p o h => b.kp p o (a.kp p o h), fun p o h f => b.fr p o (a.kp p o h) (a.fr p o h f)⟩
theorem Grow.evo (g : Grow H F H' F') : Evo O H F O H' F' :=
  ⟨g.sf, g.sh, fun p o h f _ => ⟨g.kp p o h, g.fr p o h f⟩, fun p h => (by
    cases e : H p with
    | none => rfl
    | some o => rw [g.kp p o e] at h; cases h), fun _ h => .inl h, fun _ _ h => h⟩
theorem Same.updN {o : HO} (h : H p = none) : Same H (upd H p o) := fun b x e => by
  rw [upd_ne (ne_of_none e h)]; exact e
/-- a new frozen object -/
theorem Grow.newF (s : Same F H) (h : H p = none) : Grow H F (upd H p o) (upd F p o) := by
  have hf : F p = none := L2.Same.free s h
  refine ⟨Same.updN hf, fun b x e => ?_, fun b x e => Same.updN h b x e, fun b x e f => ?_⟩
  · by_cases hb : b = p
    · subst hb; rw [upd_same] at e ⊢; exact e
    · rw [upd_ne hb] at e ⊢; exact s _ _ e
  · rw [upd_ne (ne_of_none e h)]; exact f
/-- a new object of one's own -/
theorem Grow.newO (s : Same F H) (h : H p = none) : Grow H F (upd H p o) F :=
  ⟨Same.refl _, s.trans (Same.updN h), fun b x e => Same.updN h b x e, fun _ _ _ f => f⟩
theorem Rdd.grow (r : Rdd K mg H F v d) (g : Grow H F H' F') : Rdd K mg H' F' v d := by
  unfold Rdd at r ⊢
  split
  · rename_i h
    rw [if_pos h] at r
    obtain ⟨p, o, e, h1, c⟩ := r
    exact ⟨p, o, e, g.kp _ _ h1, cont_mono g.sf c⟩
  · rename_i h
    rw [if_neg h] at r
    exact rep_mono g.sf r
theorem Cell.grow (r : Cell K mg H F v d) (g : Grow H F H' F') : Cell K mg H' F' v d := by
  unfold Cell at r ⊢
  split
  · rename_i h
    rw [if_pos h] at r
    obtain ⟨p, o, e, h1, c, f⟩ := r
    exact ⟨p, o, e, g.kp _ _ h1, cont_mono g.sf c, g.fr _ _ h1 f⟩
  · rename_i h
    rw [if_neg h] at r
    exact rep_mono g.sf r
theorem SlotOk.grow {m : Md} (r : SlotOk K mg O H F m v d) (g : Grow H F H' F') : SlotOk K mg O H' F' m v d := by
  cases m with
  | fz => exact rep_mono g.sf r
  | own => exact Cell.grow r g
  | brw => exact RdN.evo r g.evo
  | io p => exact ⟨r.1, r.2.1, Cell.grow r.2.2 g⟩
  | xc a c x => exact xc_mono g.sf r
theorem Rel.grow (r : Rel K mg Γ ρ σ H F) (g : Grow H F H' F') : Rel K mg Γ ρ σ H' F' :=
  ⟨r.lr, r.lg, fun i m d h1 h2 => by
    obtain ⟨v, h3, h4⟩ := r.slot i m d h1 h2
    exact ⟨v, h3, h4.grow g⟩, r.inj, g.sh⟩
/-- what a rule hands back: only new things -/
def NewOk (K : PySem.W.Frag) (mg : Str → Option Value) (m : Md) (H H' F' : Hp) (v : V) (d : D) : Prop :=
  match m with
  | .own => Cell K mg H' F' v d ∧ (cellD d = true → ∀ p, v = .ref p → H p = none)
  | _ => rep K mg F' d v
theorem Own.there (r : Rel K mg Γ ρ σ H F) (h : (Own Γ ρ σ).o p) : ∃ o, H p = some o ∧ F p = none := by
  obtain ⟨i, m, d, h1, h2, h3, h4, h5⟩ := h
  obtain ⟨v, h6, h7⟩ := r.slot i m d h1 h3
  rw [h5] at h6; cases h6
  have c : Cell K mg H F (.ref p) d := by
    cases m with
    | own => exact h7
    | io q => exact h7.2.2
    | fz => cases h2
    | brw => cases h2
    | xc a c x => cases h2
  unfold Cell at c
  rw [if_pos h4] at c
  obtain ⟨q, o, e, k1, _, k3⟩ := c
  cases e
  exact ⟨o, k1, k3⟩
theorem NewOk.val (r : Rel K mg Γ ρ σ H F) {m : Md} (h : NewOk K mg m H H' F' v d) : ValOk K mg m (Own Γ ρ σ) H H' F' v d := by
  cases m <;> first | exact h | skip
  refine ⟨h.1, fun c p e => ⟨h.2 c p e, fun z => ?_⟩⟩
  obtain ⟨o, k, _⟩ := Own.there r z
  rw [h.2 c p e] at k; cases k
end

/-! ### freezing -/
section
variable {K : PySem.W.Frag} {mg : Str → Option Value} {O O' O1 : Ft} {H F H' F' H1 F1 : Hp} {v : V} {d : D} {Γ : Gm} {ρ : Env} {σ : St} {o : HO} {p : Addr}
theorem Same.frz (s : Same F H) (h : H p = some o) : Same (upd F p o) H := fun b x e => by
  by_cases hb : b = p
  · subst hb; rw [upd_same] at e; cases e; exact h
  · rw [upd_ne hb] at e; exact s _ _ e
theorem Same.updF (h : F p = none) : Same F (upd F p o) := fun b x e => by rw [upd_ne (ne_of_none e h)]; exact e
theorem RdN.frz (r : RdN K mg O H F v d) (h : H p = some o) (f : F p = none) (i : ∀ q, O'.o q → O.o q) : RdN K mg O' H (upd F p o) v d := by
  unfold RdN at r ⊢
  split
  · rename_i hc
    rw [if_pos hc] at r
    obtain ⟨q, u, e, h1, c, k⟩ := r
    refine ⟨q, u, e, h1, cont_mono (Same.updF f) c, ?_⟩
    by_cases hq : q = p
    · subst hq; rw [h] at h1; cases h1; exact .inl upd_same
    · rw [upd_ne hq]
      rcases k with k | ⟨k1, k2⟩
      · exact .inl k
      · exact .inr ⟨k1, fun z => k2 (i _ z)⟩
  · rename_i hc
    rw [if_neg hc] at r
    exact rep_mono (Same.updF f) r
theorem Cell.frz (r : Cell K mg H F v d) (f : F p = none) (n : cellD d = true → v ≠ .ref p) : Cell K mg H (upd F p o) v d := by
  unfold Cell at r ⊢
  split
  · rename_i hc
    rw [if_pos hc] at r
    obtain ⟨q, u, e, h1, c, k⟩ := r
    refine ⟨q, u, e, h1, cont_mono (Same.updF f) c, ?_⟩
    rw [upd_ne (fun z => n hc (by rw [e, z]))]
    exact k
  · rename_i hc
    rw [if_neg hc] at r
    exact rep_mono (Same.updF f) r
/-- an object that no slot owns is frozen -/
theorem Rel.frz (r : Rel K mg Γ ρ σ H F) (h : H p = some o) (f : F p = none) (n : ¬ (Own Γ ρ σ).o p) : Rel K mg Γ ρ σ H (upd F p o) :=
  ⟨r.lr, r.lg, fun i m d h1 h2 => by
    obtain ⟨v, h3, h4⟩ := r.slot i m d h1 h2
    refine ⟨v, h3, ?_⟩
    cases m with
    | fz => exact rep_mono (Same.updF f) h4
    | own => exact Cell.frz h4 f fun hc e => n ⟨i, _, d, h1, rfl, h2, hc, by rw [h3, e]⟩
    | brw => exact RdN.frz h4 h f fun _ z => z
    | xc a c x => exact xc_mono (Same.updF f) h4
    | io q => exact ⟨h4.1, h4.2.1, Cell.frz h4.2.2 f fun hc e => n ⟨i, _, d, h1, rfl, h2, hc, by rw [h3, e]⟩⟩, r.inj, Same.frz r.sub h⟩
theorem Evo.frz (e : Evo O H F O' H1 F1) (h : H1 p = some o) (f : F1 p = none) (n : ∀ u, H p = some u → F p = none → O.o p) : Evo O H F O' H1 (upd F1 p o) :=
  ⟨e.sf.trans (Same.updF f), Same.frz e.sh h, fun q u k1 k2 k3 => by
    obtain ⟨j1, j2⟩ := e.kp q u k1 k2 k3
    refine ⟨j1, ?_⟩
    rw [upd_ne (fun z => k3 (by subst z; exact n u k1 k2))]
    exact j2, e.dom, e.ow, e.ob⟩
theorem OwnAt.of_set {i j : Nat} {m : Md} (hm : m.mut = false) (h : OwnAt (Γ.set i m) ρ σ j p) : OwnAt Γ ρ σ j p ∧ j ≠ i := by
  obtain ⟨m', d, h1, h2, h3⟩ := h
  by_cases e : i = j
  · subst e
    by_cases hl : i < Γ.length
    · rw [List.getElem?_set_self hl] at h1; cases h1; rw [hm] at h2; cases h2
    · rw [List.getElem?_eq_none (by simpa using hl)] at h1; cases h1
  · rw [List.getElem?_set_ne e] at h1
    exact ⟨⟨m', d, h1, h2, h3⟩, fun z => e z.symm⟩
theorem BrwAt.of_set {i j : Nat} {m : Md} (hm : m ≠ .brw) (h : BrwAt (Γ.set i m) ρ σ j p) : BrwAt Γ ρ σ j p := by
  obtain ⟨d, h1, h2⟩ := h
  by_cases e : i = j
  · subst e
    by_cases hl : i < Γ.length
    · rw [List.getElem?_set_self hl] at h1; cases h1; exact absurd rfl hm
    · rw [List.getElem?_eq_none (by simpa using hl)] at h1; cases h1
  · rw [List.getElem?_set_ne e] at h1
    exact ⟨d, h1, h2⟩
theorem Own.of_set {i : Nat} {m : Md} (hm : m.mut = false) (h : (Own (Γ.set i m) ρ σ).o p) : (Own Γ ρ σ).o p := let ⟨j, h⟩ := h; ⟨j, (h.of_set hm).1⟩
theorem set_get {α : Type} {l : List α} {i j : Nat} {x y : α} (h : (l.set i x)[j]? = some y) : (i = j ∧ y = x ∧ j < l.length) ∨ (i ≠ j ∧ l[j]? = some y) := by
  by_cases e : i = j
  · subst e
    by_cases hl : i < l.length
    · rw [List.getElem?_set_self hl] at h; cases h; exact .inl ⟨rfl, rfl, hl⟩
    · rw [List.getElem?_eq_none (by simpa using hl)] at h; cases h
  · rw [List.getElem?_set_ne e] at h; exact .inr ⟨e, h⟩
/-- a slot's object is frozen -/
theorem Rel.frzAt {i : Nat} (r : Rel K mg Γ ρ σ H F) (hm : Γ[i]? = some .own) (hd : ρ[i]? = some (some d)) :
    ∃ v F', σ[i]? = some (some v) ∧ rep K mg F' d v ∧ Rel K mg (Γ.set i .fz) ρ σ H F' ∧ Evo (Own Γ ρ σ) H F (Own (Γ.set i .fz) ρ σ) H F' := by
  obtain ⟨v, h1, h2⟩ := r.slot i _ d hm hd
  have h2 : Cell K mg H F v d := h2
  have ev0 : Evo (Own Γ ρ σ) H F (Own (Γ.set i .fz) ρ σ) H F := (Evo.refl r.sub).mono (fun _ z => z) (fun p z => .inl (Own.of_set rfl z)) fun _ _ z => z.of_set (by intro e; cases e)
  by_cases hc : cellD d = true
  · have h2' := h2
    unfold Cell at h2'
    rw [if_pos hc] at h2'
    obtain ⟨p, o, e, k1, k2, k3⟩ := h2'
    subst e
    have own : OwnAt Γ ρ σ i p := ⟨_, d, hm, rfl, hd, hc, h1⟩
    have fi : rep K mg (upd F p o) d (.ref p) := (rep_cell hc).mpr ⟨p, o, rfl, upd_same, cont_mono (Same.updF k3) k2⟩
    refine ⟨_, upd F p o, h1, fi, ⟨r.lr, by rw [List.length_set]; exact r.lg, fun j m d' g1 g2 => ?_, fun a b q g1 g2 => r.inj a b q (g1.of_set rfl).1 (g2.of_set rfl).1, Same.frz r.sub k1⟩, ev0.frz k1 k3 fun u _ _ => ⟨i, own⟩⟩
    rcases set_get g1 with ⟨e, rfl, _⟩ | ⟨e, g1⟩
    · subst e
      rw [hd] at g2; cases g2
      exact ⟨_, h1, fi⟩
    · obtain ⟨w, w1, w2⟩ := r.slot j m d' g1 g2
      refine ⟨w, w1, ?_⟩
      cases m with
      | fz => exact rep_mono (Same.updF k3) w2
      | own => exact Cell.frz w2 k3 fun hc' z => e (r.inj i j p own ⟨_, d', g1, rfl, g2, hc', by rw [w1, z]⟩)
      | brw => exact RdN.frz w2 k1 k3 fun _ z => Own.of_set rfl z
      | xc a c x => exact xc_mono (Same.updF k3) w2
      | io q => exact ⟨w2.1, w2.2.1, Cell.frz w2.2.2 k3 fun hc' z => e (r.inj i j p own ⟨_, d', g1, rfl, g2, hc', by rw [w1, z]⟩)⟩
  · have fi : rep K mg F d v := by unfold Cell at h2; rw [if_neg hc] at h2; exact h2
    refine ⟨v, F, h1, fi, ⟨r.lr, by rw [List.length_set]; exact r.lg, fun j m d' g1 g2 => ?_, fun a b q g1 g2 => r.inj a b q (g1.of_set rfl).1 (g2.of_set rfl).1, r.sub⟩, ev0⟩
    rcases set_get g1 with ⟨e, rfl, _⟩ | ⟨e, g1⟩
    · subst e
      rw [hd] at g2; cases g2
      exact ⟨_, h1, fi⟩
    · obtain ⟨w, w1, w2⟩ := r.slot j m d' g1 g2
      refine ⟨w, w1, ?_⟩
      cases m with
      | brw =>
        have w2 : RdN K mg (Own Γ ρ σ) H F w d' := w2
        exact w2.evo ev0
      | _ => exact w2
end

section
variable {X : Cx} {Γ Γ' Γ1 Γ2 Γ3 : Gm} {W : WE} {e a b c : Expr} {pos : Pos} {m : Md} {ev : Ev} {et : Et}
theorem peImp {t t' : TE} (h : PE X e t) (i : ∀ σ H Q, t' σ H Q → t σ H Q) : PE X e t' := ⟨fun pins s σ H Q I q => h.run pins s σ H Q I (i σ H Q q)⟩
theorem ptImp {t t' : TT} (h : PT X e t) (i : ∀ σ H Q, t' σ H Q → t σ H Q) : PT X e t' := ⟨fun pins s σ H Q I q => h.run pins s σ H Q I (i σ H Q q)⟩

/-! ### constants and names -/
def eC (d : D) : Ev := fun ρ => .ok (d, ρ)
def eVar (i : Nat) : Ev := fun ρ => (gv ρ i).bind fun d => .ok (d, ρ)
def eVarB (i : Nat) : Ev := fun ρ => (gv ρ i).bind fun d => if cellD d = true then .bad else .ok (d, ρ)
theorem ve_const {v : V} {d : D} (h : PE X e (tC v)) (hd : ∀ F, rep X.K X.mg F d v) : VE X Γ Γ W e .fz (eC d) :=
  peImp h fun σ H Q ⟨ρ, F, r, q⟩ => q v H F (Evo.refl r.sub) r (hd F)
theorem ve_int {i j pos} : VE X Γ Γ W (.Constant (.int i) j pos) .fz (eC (.int i)) := ve_const pe_int fun _ => rfl
theorem ve_bl {b j pos} : VE X Γ Γ W (.Constant (.bool b) j pos) .fz (eC (.bl b)) := ve_const pe_bl fun _ => rfl
theorem ve_non {j pos} : VE X Γ Γ W (.Constant .none j pos) .fz (eC .non) := ve_const pe_non fun _ => rfl
theorem ve_str {x : Str} {l : List Nat} {j pos} (h : x = ⟨l.toArray⟩) : VE X Γ Γ W (.Constant (.str x) j pos) .fz (eC (.str l)) := ve_const pe_str fun _ => by
  subst h; simp only [rep]
theorem gv_sat {ρ : Env} {i : Nat} {P : D → Prop} {E : Exn → Prop} (h : (gv ρ i).sat P E) : ∃ d, ρ[i]? = some (some d) ∧ P d := by
  rcases gv_cases ρ i with ⟨d, e1, e2⟩ | e1
  · rw [e1] at h; exact ⟨d, e2, h⟩
  · rw [e1] at h; exact h.elim
theorem ve_fz {i : Nat} (h : PE X e (tVar i)) (hm : Γ[i]? = some .fz) : VE X Γ Γ W e .fz (eVar i) :=
  peImp h fun σ H Q ⟨ρ, F, r, q⟩ => by
    obtain ⟨d, e2, q⟩ := gv_sat (Res.sat_bind.mp q)
    obtain ⟨v, h1, h2⟩ := r.slot i _ d hm e2
    exact ⟨v, h1, q v H F (Evo.refl r.sub) r h2⟩
theorem ve_own {i : Nat} (h : PE X e (tVar i)) (hm : Γ[i]? = some .own) : VE X Γ (Γ.set i .fz) W e .fz (eVar i) :=
  peImp h fun σ H Q ⟨ρ, F, r, q⟩ => by
    obtain ⟨d, e2, q⟩ := gv_sat (Res.sat_bind.mp q)
    obtain ⟨v, F', h1, h2, h3, h4⟩ := r.frzAt hm e2
    exact ⟨v, h1, q v H F' h4 h3 h2⟩
theorem ve_brw {i : Nat} (h : PE X e (tVar i)) (hm : Γ[i]? = some .brw) : VE X Γ Γ W e .fz (eVarB i) :=
  peImp h fun σ H Q ⟨ρ, F, r, q⟩ => by
    obtain ⟨d, e2, q⟩ := gv_sat (Res.sat_bind.mp q)
    obtain ⟨v, h1, h2⟩ := r.slot i _ d hm e2
    by_cases hc : cellD d = true
    · rw [if_pos hc] at q; exact q.elim
    · rw [if_neg hc] at q
      have h2 : RdN X.K X.mg (Own Γ ρ σ) H F v d := h2
      unfold RdN at h2
      rw [if_neg hc] at h2
      exact ⟨v, h1, q v H F (Evo.refl r.sub) r h2⟩
/-- a new object is not changed any more -/
theorem ve_coe (h : VE X Γ Γ' W e .own ev) : VE X Γ Γ' W e .fz ev :=
  peImp h fun σ H Q ⟨ρ, F, r, q⟩ => ⟨ρ, F, r, Res.sat_imp q (fun z _ q v H' F' e1 r1 ⟨c, n⟩ => by
      unfold Cell at c
      split at c
      · rename_i hc
        obtain ⟨p, o, e2, k1, k2, k3⟩ := c
        subst e2
        obtain ⟨n1, n2⟩ := n hc p rfl
        exact q _ H' (upd F' p o) (e1.frz k1 k3 fun u z _ => by rw [n1] at z; cases z) (r1.frz k1 k3 n2) ((rep_cell hc).mpr ⟨p, o, rfl, upd_same, cont_mono (Same.updF k3) k2⟩)
      · exact q v H' F' e1 r1 c) fun _ h => h⟩
/-- a value that has no object of its own may be called one's own -/
def eUp (ev : Ev) : Ev := fun ρ => (ev ρ).bind fun r => if cellD r.1 = true then .bad else .ok r
theorem ve_up (h : VE X Γ Γ' W e .fz ev) : VE X Γ Γ' W e .own (eUp ev) :=
  peImp h fun σ H Q ⟨ρ, F, r, q⟩ => ⟨ρ, F, r, Res.sat_imp (Res.sat_bind.mp q) (fun z _ q v H' F' e1 r1 c => by
      by_cases hc : cellD z.1 = true
      · rw [if_pos hc] at q; exact q.elim
      · rw [if_neg hc] at q
        exact q v H' F' e1 r1 ⟨by unfold Cell; rw [if_neg hc]; exact c, fun z => absurd z hc⟩) fun _ h => h⟩
/-! ### operands -/
theorem vb_slot {i : Nat} (h : PE X e (tVar i)) : VB X Γ Γ W e (.slot i) :=
  peImp h fun σ H Q ⟨ρ, F, r, q⟩ => by
    obtain ⟨d, e2, q⟩ := gv_sat (Res.sat_bind.mp q)
    obtain ⟨v, h1, h2⟩ := r.rdd e2
    exact ⟨v, h1, q v H F (Evo.refl r.sub) r h1⟩
theorem vb_ex (h : VE X Γ Γ' W e m ev) : VB X Γ Γ' W e (.ex ev) :=
  peImp h fun σ H Q ⟨ρ, F, r, q⟩ => ⟨ρ, F, r, Res.sat_imp (Res.sat_bind.mp q) (fun z _ q v H' F' e1 r1 vo => q v H' F' e1 r1 (vo.rdN r1)) fun _ h => h⟩
/-- two operands, then what is done with their values -/
theorem bor2 {oa ob : Opd} {α : Type} {k : D → D → Env → Res α} {P : α → Prop} {R : V → V → Hp → Prop} {σ : St} {H F : Hp} {ρ : Env} (r : Rel X.K X.mg Γ ρ σ H F)
    (q : ((oa.run ρ).bind fun p => (ob.run p.2).bind fun s => (oa.fin p.1 s.2).bind fun dx => (ob.fin s.1 s.2).bind fun dy => k dx dy s.2).sat P (exW W Γ ρ σ H F))
    (hk : ∀ dx dy ρ2 x y H2 F2, (k dx dy ρ2).sat P (exW W Γ ρ σ H F) → Evo (Own Γ ρ σ) H F (Own Γ2 ρ2 σ) H2 F2 → Rel X.K X.mg Γ2 ρ2 σ H2 F2 → Rdd X.K X.mg H2 F2 x dx → Rdd X.K X.mg H2 F2 y dy → R x y H2) :
    trB X Γ Γ1 W oa σ H fun x H1 => trB X Γ1 Γ2 W ob σ H1 fun y H2 => R x y H2 :=
  ⟨ρ, F, r, Res.sat_imp (Res.sat_bind.mp q) (fun p _ q v H1 F1 e1 r1 b1 => ⟨p.2, F1, r1, Res.sat_imp (Res.sat_bind.mp q) (fun s _ q w H2 F2 e2 r2 b2 =>
    by
      have q := Res.sat_bind.mp q
      cases h1 : oa.fin p.1 s.2 with
      | bad => rw [h1] at q; exact q.elim
      | exn x =>
        exfalso
        cases oa with
        | slot i =>
          rcases gv_cases s.2 i with ⟨d, e, _⟩ | e
          · have h1 : gv s.2 i = .exn x := h1
            rw [e] at h1; cases h1
          · have h1 : gv s.2 i = .exn x := h1
            rw [e] at h1; cases h1
        | ex f => cases hp : p.1 <;> rw [hp] at h1 <;> cases h1
      | ok dx =>
        rw [h1] at q
        have q := Res.sat_bind.mp q
        cases h2 : ob.fin s.1 s.2 with
        | bad => rw [h2] at q; exact q.elim
        | exn x =>
          exfalso
          cases ob with
          | slot i =>
            rcases gv_cases s.2 i with ⟨d, e, _⟩ | e
            · have h2 : gv s.2 i = .exn x := h2
              rw [e] at h2; cases h2
            · have h2 : gv s.2 i = .exn x := h2
              rw [e] at h2; cases h2
          | ex f => cases hp : s.1 <;> rw [hp] at h2 <;> cases h2
        | ok dy =>
          rw [h2] at q
          exact hk dx dy s.2 v w H2 F2 q (e1.trans e2) r2 (b1.fin r2 e2 h1) (b2.fin r2 (Evo.refl r2.sub) h2)) fun _ h => h.evo e1⟩) fun _ h => h⟩
end
end VL

set_option Elab.async false
set_option linter.all false
set_option maxRecDepth 100000
/-! VL2: operators and built-in calls by values. -/
namespace VL
open PySem PySem.Spec PyProof.Rows L2

def opt {α : Type} : Option α → Res α
  | some a => .ok a
  | none => .bad
@[simp] theorem opt_some {α : Type} (a : α) : opt (some a) = .ok a := rfl
@[simp] theorem opt_none {α : Type} : opt (none : Option α) = .bad := rfl
theorem opt_sat {α : Type} {o : Option α} {P : α → Prop} {E : Exn → Prop} (h : (opt o).sat P E) : ∃ a, o = some a ∧ P a := by
  cases o with
  | none => exact h.elim
  | some a => exact ⟨a, rfl, h⟩
def eBin (f : D → D → Option D) (oa ob : Opd) : Ev := fun ρ => (oa.run ρ).bind fun p => (ob.run p.2).bind fun s => (oa.fin p.1 s.2).bind fun dx => (ob.fin s.1 s.2).bind fun dy => (opt (f dx dy)).bind fun d => .ok (d, s.2)

/-- a rule of two values, by a function of data -/
def OpF (K : PySem.W.Frag) (mg : Str → Option Value) (f : D → D → Option D) (r : R2) (m : Md) : Prop :=
  ∀ H F v w a b d Q, Same F H → Rdd K mg H F v a → Rdd K mg H F w b → f a b = some d → (∀ u H' F', Grow H F H' F' → NewOk K mg m H H' F' u d → Q u H') → r v w H Q

section
variable {X : Cx} {Γ Γ' Γ1 Γ2 Γ3 : Gm} {W : WE} {e a b c : Expr} {pos : Pos} {m : Md} {ev : Ev} {et : Et} {oa ob : Opd} {f : D → D → Option D} {r : R2}
theorem ve_two {op : V → V → Hp → VK → Prop} (hf : OpF X.K X.mg f op m) {σ : St} {H : Hp} {Q : VK} (h : trE X Γ Γ2 W m (eBin f oa ob) σ H Q) :
    tOp op (trB X Γ Γ1 W oa) (trB X Γ1 Γ2 W ob) σ H Q := by
  obtain ⟨ρ, F, rl, q⟩ := h
  unfold eBin at q
  refine bor2 (k := fun dx dy ρ2 => (opt (f dx dy)).bind fun d => .ok (d, ρ2)) rl q fun dx dy ρ2 x y H2 F2 q e2 r2 hx hy => ?_
  obtain ⟨d, hd, q⟩ := opt_sat (Res.sat_bind.mp q)
  exact hf H2 F2 x y dx dy d Q r2.sub hx hy hd fun u H3 F3 g n => q u H3 F3 (e2.trans g.evo) (r2.grow g) (by
    have n' := n.val r2
    cases m <;> first | exact n' | skip
    exact ⟨n'.1, fun c p e => ⟨e2.dom p (n'.2 c p e).1, (n'.2 c p e).2⟩⟩)
theorem ve_bin {op : Operator} (ho : OpR X (binaryOp op) r) (hf : OpF X.K X.mg f r m) (ha : VB X Γ Γ1 W a oa) (hb : VB X Γ1 Γ2 W b ob) : VE X Γ Γ2 W (.BinOp a op b pos) m (eBin f oa ob) :=
  peImp (pe_op ho ha hb) fun _ _ _ h => ve_two hf h
theorem ve_cmp {op : CmpOp} (ho : OpR X (compareOp op) r) (hf : OpF X.K X.mg f r m) (ha : VB X Γ Γ1 W a oa) (hb : VB X Γ1 Γ2 W b ob) (hm : behindInMarks op b = false) : VE X Γ Γ2 W (.Compare a [op] [b] pos) m (eBin f oa ob) :=
  peImp (pe_cmpR ho ha hb hm) fun _ _ _ h => ve_two hf h
theorem ve_ix (hr : IxR X r) (hf : OpF X.K X.mg f r m) (ha : VB X Γ Γ1 W a oa) (hb : VB X Γ1 Γ2 W b ob) (hs : PlainIx b) : VE X Γ Γ2 W (.Subscript a b pos) m (eBin f oa ob) :=
  peImp (pe_ix hr ha hb hs) fun _ _ _ h => ve_two hf h
end

/-! ### reading a datum back from its value -/
section
variable {K : PySem.W.Frag} {mg : Str → Option Value} {H F H' F' : Hp} {v u : V} {d : D} {m : Md}
theorem Rdd.of_rep (h : cellD d = false) (r : Rdd K mg H F v d) : rep K mg F d v := by
  unfold Rdd at r; rw [if_neg (by rw [h]; decide)] at r; exact r
theorem Rdd.int {i : Int} (r : Rdd K mg H F v (.int i)) : v = .int i := by have := Rdd.of_rep rfl r; simpa only [rep] using this
theorem Rdd.bl {i : Bool} (r : Rdd K mg H F v (.bl i)) : v = .bl i := by have := Rdd.of_rep rfl r; simpa only [rep] using this
theorem Rdd.non (r : Rdd K mg H F v .non) : v = .non := by have := Rdd.of_rep rfl r; simpa only [rep] using this
theorem Rdd.str {l : List Nat} (r : Rdd K mg H F v (.str l)) : v = .str ⟨l.toArray⟩ := by have := Rdd.of_rep rfl r; simpa only [rep] using this
theorem Rdd.tup {l : List D} (r : Rdd K mg H F v (.tup l)) : ∃ p vs, v = .ref p ∧ SqT K F p vs ∧ reps K mg F l vs := by have := Rdd.of_rep rfl r; simpa only [rep] using this
theorem Rdd.scr {l : List Int} (r : Rdd K mg H F v (.scr l)) : ∃ p, v = .ref p ∧ SqL K F p (l.map V.int) := by have := Rdd.of_rep rfl r; simpa only [rep] using this
theorem Rdd.lst {l : List D} (r : Rdd K mg H F v (.lst l)) : ∃ p vs, v = .ref p ∧ H p = some (.lst vs) ∧ reps K mg F l vs := by
  unfold Rdd at r
  rw [if_pos (show cellD (.lst l) = true from rfl)] at r
  obtain ⟨p, o, e, h, vs, rfl, c⟩ := r
  exact ⟨p, vs, e, h, c⟩
theorem NewOk.atom (h : cellD d = false) (r : rep K mg F' d u) : NewOk K mg m H H' F' u d := by
  cases m <;> first | exact r | skip
  exact ⟨by unfold Cell; rw [if_neg (by rw [h]; decide)]; exact r, fun c => by rw [h] at c; cases c⟩
theorem NewOk.newL {p : Addr} {vs : List V} {l : List D} (hp : H p = none) (s : Same F H) (r : reps K mg F l vs) : NewOk K mg .own H (upd H p (.lst vs)) F (.ref p) (.lst l) :=
  ⟨by
    unfold Cell
    rw [if_pos (show cellD (.lst l) = true from rfl)]
    exact ⟨p, _, rfl, upd_same, ⟨vs, rfl, r⟩, L2.Same.free s hp⟩, fun _ q e => by cases e; exact hp⟩
theorem rep_tup_new {p : Addr} {vs : List V} {l : List D} (hp : H p = none) (s : Same F H) (r : reps K mg F l vs) : rep K mg (upd F p (.tup vs)) (.tup l) (.ref p) := by
  simp only [rep]
  exact ⟨p, vs, rfl, .inl (.inl upd_same), reps_mono (Same.updN (L2.Same.free s hp)) r⟩
end

/-! ### + -/
def dAdd : D → D → Option D
  | .int i, .int j => some (.int (i + j))
  | .str a, .str b => if a.length + b.length ≤ 16777216 then some (.str (a ++ b)) else none
  | .lst a, .lst b => if a.length + b.length ≤ 16777216 then some (.lst (a ++ b)) else none
  | .tup a, .tup b => if a.length + b.length ≤ 16777216 then some (.tup (a ++ b)) else none
  | _, _ => none
theorem sqT_same {K : PySem.W.Frag} {F H : Hp} {p : Addr} {vs : List V} (s : Same F H) (h : SqT K F p vs) : SqT K H p vs := Same.sqT s h
def rAddA (K : PySem.W.Frag) : R2 := fun x y H Q => (rI0 (fun i j => .int (i + j)) x y H Q) ∨ ((∃ i j, x = .str i ∧ y = .str j ∧ i.length + j.length ≤ sizeLine ∧ Q (.str (i ++ j)) H) ∨ (rCat x y H Q ∨ rCatA K x y H Q))
theorem op_addA {X : Cx} : OpR X (binaryOp .Add) (rAddA X.K) := op_add.or (op_add_str.or (op_cat.or op_catA))
theorem str_append (a b : List Nat) : (⟨a.toArray⟩ : Str) ++ ⟨b.toArray⟩ = ⟨(a ++ b).toArray⟩ := by
  show (Str.append _ _) = _
  unfold Str.append
  simp
theorem f_add {K : PySem.W.Frag} {mg : Str → Option Value} : OpF K mg dAdd (rAddA K) .own := by
  intro H F v w a b d Q s ra rb hf q
  unfold dAdd at hf
  split at hf
  · cases hf
    exact .inl ⟨_, _, ra.int, rb.int, q _ H F (Grow.refl s) (.atom rfl rfl)⟩
  · split at hf <;> cases hf
    rename_i x y h
    refine .inr (.inl ⟨_, _, ra.str, rb.str, by rw [sizeLine_eq]; simpa [Str.length] using h, ?_⟩)
    rw [str_append]
    exact q _ H F (Grow.refl s) (.atom rfl (by simp only [rep]))
  · split at hf <;> cases hf
    rename_i x y h
    obtain ⟨p, vs, rfl, h1, h2⟩ := ra.lst
    obtain ⟨p', vs', rfl, h1', h2'⟩ := rb.lst
    refine .inr (.inr (.inl ⟨p, p', vs, vs', rfl, rfl, h1, h1', by rw [sizeLine_eq, reps_length h2, reps_length h2']; exact h, fun n hn => ?_⟩))
    exact q _ _ F (Grow.newO s hn) (.newL hn s (reps_append h2 h2'))
  · split at hf <;> cases hf
    rename_i x y h
    obtain ⟨p, vs, rfl, h1, h2⟩ := ra.tup
    obtain ⟨p', vs', rfl, h1', h2'⟩ := rb.tup
    refine .inr (.inr (.inr ?_))
    unfold rCatA
    refine ⟨p, p', vs, vs', rfl, rfl, sqT_same s h1, sqT_same s h1', by rw [sizeLine_eq, reps_length h2, reps_length h2']; exact h, ?_⟩
    refine ⟨fun e => ?_, fun e1 e => ?_, fun e1 e2 n hn => ?_⟩
    · subst e
      have e : x = [] := by have := reps_length h2; cases x with
        | nil => rfl
        | cons _ _ => simp at this
      subst e
      exact q _ H F (Grow.refl s) (.atom rfl (by simp only [rep, List.nil_append]; exact ⟨p', vs', rfl, h1', h2'⟩))
    · subst e
      have e : y = [] := by have := reps_length h2'; cases y with
        | nil => rfl
        | cons _ _ => simp at this
      subst e
      exact q _ H F (Grow.refl s) (.atom rfl (by simp only [rep, List.append_nil]; exact ⟨p, vs, rfl, h1, h2⟩))
    · exact q _ _ _ (Grow.newF s hn) (.atom rfl (rep_tup_new hn s (reps_append h2 h2')))
  · cases hf
/-! ### the other operators of ints -/
def dInt2 (C : Int → Int → Bool) (g : Int → Int → Int) : D → D → Option D
  | .int i, .int j => if C i j = true then some (.int (g i j)) else none
  | _, _ => none
theorem f_int2 {K : PySem.W.Frag} {mg : Str → Option Value} {C : Int → Int → Bool} {C' : Int → Int → Prop} {g : Int → Int → Int} (h : ∀ i j, C i j = true → C' i j) :
    OpF K mg (dInt2 C g) (rI C' fun i j => .int (g i j)) .fz := by
  intro H F v w a b d Q s ra rb hf q
  unfold dInt2 at hf
  split at hf
  · split at hf <;> cases hf
    rename_i hc
    exact ⟨_, _, ra.int, rb.int, h _ _ hc, q _ H F (Grow.refl s) (.atom rfl rfl)⟩
  · cases hf
def dSub : D → D → Option D
  | .int i, .int j => some (.int (i - j))
  | _, _ => none
theorem f_sub {K : PySem.W.Frag} {mg : Str → Option Value} : OpF K mg dSub (rI0 fun i j => .int (i - j)) .fz := by
  intro H F v w a b d Q s ra rb hf q
  unfold dSub at hf
  split at hf
  · cases hf
    exact ⟨_, _, ra.int, rb.int, q _ H F (Grow.refl s) (.atom rfl rfl)⟩
  · cases hf
def cMulB (i j : Int) : Bool := decide (i.natAbs < 18446744073709551616 ∨ j.natAbs < 18446744073709551616)
theorem cMul_ok (i j : Int) (h : cMulB i j = true) : CMul i j := by
  unfold cMulB at h
  have := of_decide_eq_true h
  unfold CMul
  rcases this with h | h
  · left; omega
  · right; omega
def cModB (_ j : Int) : Bool := decide (j ≠ 0)
def cDivB (_ j : Int) : Bool := decide (j ≠ 0 ∧ j.natAbs < 1073741824)
def cPowB (i j : Int) : Bool := decide (0 ≤ j ∧ j ≤ 1000000 ∧ i.natAbs < 18446744073709551616)
def dMod : D → D → Option D := dInt2 cModB Int.fmod
def dFdiv : D → D → Option D := dInt2 cDivB Int.fdiv
def dPow : D → D → Option D := dInt2 cPowB fun i j => i ^ j.toNat
theorem f_mod {K : PySem.W.Frag} {mg : Str → Option Value} : OpF K mg dMod (rI (fun _ j => j ≠ 0) fun i j => .int (i.fmod j)) .fz := f_int2 fun _ _ h => of_decide_eq_true h
theorem f_fdiv {K : PySem.W.Frag} {mg : Str → Option Value} : OpF K mg dFdiv (rI CDivN fun i j => .int (i.fdiv j)) .fz := f_int2 fun i j h => of_decide_eq_true (p := j ≠ 0 ∧ j.natAbs < 1073741824) h
theorem f_pow {K : PySem.W.Frag} {mg : Str → Option Value} : OpF K mg dPow (rI CPow fun i j => .int (i ^ j.toNat)) .fz := f_int2 fun i j h => of_decide_eq_true (p := 0 ≤ j ∧ j ≤ 1000000 ∧ i.natAbs < 18446744073709551616) h
theorem foldl_repA {α : Type} (a : List α) : ∀ (n : Nat) (b : List α), List.foldl (fun x1 x2 => x1 ++ x2) b.toArray (List.replicate n a.toArray) = (b ++ (List.replicate n a).flatten).toArray
  | 0, b => by simp
  | n + 1, b => by
    simp only [List.replicate_succ, List.foldl_cons, List.flatten_cons]
    have := foldl_repA a n (b ++ a)
    rw [show b.toArray ++ a.toArray = (b ++ a).toArray by simp, this, List.append_assoc]
theorem txt_mul (a : List Nat) (k : Int) : Txt.mul ⟨a.toArray⟩ k = ⟨(List.replicate k.toNat a).flatten.toArray⟩ := by
  unfold Txt.mul
  by_cases h : k < 1
  · rw [if_pos h]
    have : k.toNat = 0 := by omega
    rw [this]; rfl
  · rw [if_neg h]
    split
    · rename_i h2
      rw [Bool.or_eq_true] at h2
      rcases h2 with h2 | h2
      · have : k = 1 := by simpa using h2
        subst this
        simp
      · have : a = [] := by
          have : a.toArray.size = 0 := by simpa [Str.length] using h2
          simpa using this
        subst this
        simp
    · have := foldl_repA a k.toNat []
      simpa using this
def rMulS : R2 := fun x y H Q => ∃ (a : List Nat) (k : Int), x = .str ⟨a.toArray⟩ ∧ y = .int k ∧ -16777216 ≤ k ∧ k ≤ 16777216 ∧ a.length * k.toNat ≤ 16777216 ∧ Q (.str ⟨(List.replicate k.toNat a).flatten.toArray⟩) H
theorem op_mulS {X : Cx} : OpR X (binaryOp .Mult) rMulS := by
  intro pins s σ H x y v u Q I rx ry h
  obtain ⟨a, k, rfl, rfl, h1, h2, hl, q⟩ := h
  obtain ⟨t, rfl⟩ := rx
  obtain ⟨t', rfl⟩ := ry
  refine SB.mul ⟨?_, fun g _ => ?_, fun g _ => ?_⟩ fun t2 tk => ⟨.str (Txt.mul ⟨a.toArray⟩ k), H, I.tok _, ⟨_, rfl⟩, ?_⟩
  · rw [decide_eq_false (by omega), decide_eq_false (by omega)]; rfl
  · intro z
    have e2 : Str.length ⟨a.toArray⟩ = a.length := by simp [Str.length]
    rw [e2] at z
    have h3 : ((a.length * k.toNat : Nat) : Int) ≤ ((16777216 : Nat) : Int) := Int.ofNat_le.mpr hl
    have e : ((a.length : Int)) * k ≤ 16777216 := by
      have e3 : (k.toNat : Int) = k := by omega
      rw [Int.natCast_mul, e3] at h3
      exact h3
    have h5 : ((a.length : Int)) ≤ (2 ^ 63 - 1) / k := (Int.le_ediv_iff_mul_le (by omega)).mpr (by omega)
    exact absurd h5 (Int.not_le.mpr z)
  · have e2 : Str.length ⟨a.toArray⟩ = a.length := by simp [Str.length]
    rw [e2]
    show decide (a.length * k.toNat > sizeLine) = false
    rw [sizeLine_eq]
    exact decide_eq_false (by omega)
  · rw [txt_mul]; exact q
/-- a * b: ints; a list, a text k times -/
def dMul : D → D → Option D
  | .str a, .int k => if k ≤ 16777216 ∧ -16777216 ≤ k ∧ a.length * k.toNat ≤ 16777216 then some (.str (List.replicate k.toNat a).flatten) else none
  | .int i, .int j => if cMulB i j = true then some (.int (i * j)) else none
  | .lst a, .int k => if k ≤ 16777216 ∧ -16777216 ≤ k ∧ a.length * k.toNat ≤ 16777216 then some (.lst (List.replicate k.toNat a).flatten) else none
  | _, _ => none
theorem reps_rep {K : PySem.W.Frag} {mg : Str → Option Value} {F : Hp} {ds : List D} {vs : List V} (h : reps K mg F ds vs) : ∀ n : Nat, reps K mg F (List.replicate n ds).flatten (List.replicate n vs).flatten
  | 0 => by simpa using reps_nil
  | n + 1 => by
    simp only [List.replicate_succ, List.flatten_cons]
    exact reps_append h (reps_rep h n)
theorem f_mul {K : PySem.W.Frag} {mg : Str → Option Value} : OpF K mg dMul (fun x y H Q => rI CMul (fun i j => .int (i * j)) x y H Q ∨ (rRep x y H Q ∨ rMulS x y H Q)) .own := by
  intro H F v w a b d Q s ra rb hf q
  unfold dMul at hf
  split at hf
  · split at hf <;> cases hf
    rename_i x k hc
    exact .inr (.inr ⟨x, k, ra.str, rb.int, by omega, by omega, hc.2.2, q _ H F (Grow.refl s) (.atom rfl rfl)⟩)
  · split at hf <;> cases hf
    rename_i hc
    exact .inl ⟨_, _, ra.int, rb.int, cMul_ok _ _ hc, q _ H F (Grow.refl s) (.atom rfl rfl)⟩
  · split at hf <;> cases hf
    rename_i x k hc
    obtain ⟨p, vs, rfl, h1, h2⟩ := ra.lst
    refine .inr (.inl ⟨p, k, vs, rfl, rb.int, h1, by omega, by omega, by rw [sizeLine_eq, reps_length h2]; exact hc.2.2, fun n hn => ?_⟩)
    exact q _ _ F (Grow.newO s hn) (.newL hn s (reps_rep h2 _))
  · cases hf
theorem op_mulA {X : Cx} : OpR X (binaryOp .Mult) (fun x y H Q => rI CMul (fun i j => .int (i * j)) x y H Q ∨ (rRep x y H Q ∨ rMulS x y H Q)) := op_mul.or (op_rep.or op_mulS)

/-! ### == -/
mutual
def pyd : D → PyData
  | .non => .none
  | .bl b => .bool b
  | .int i => .int i
  | .str l => .str ⟨l.toArray⟩
  | .tup l => .tuple (pyds l)
  | .lst l => .list (pyds l)
  | .dct _ => .none
  | .lck _ => .none
  | .obj _ _ => .none
  | .scr _ => .none
  | .exc _ _ => .none
def pyds : List D → List PyData
  | [] => []
  | d :: ds => pyd d :: pyds ds
end
mutual
def goodD : Nat → D → Bool
  | _, .non => true
  | _, .bl _ => true
  | _, .int _ => true
  | _, .str l => l.all fun c => decide (c < 1114112)
  | n, .tup l => match n with
    | 0 => false
    | n + 1 => goodDs n l
  | n, .lst l => match n with
    | 0 => false
    | n + 1 => goodDs n l
  | _, .dct _ => false
  | _, .lck _ => false
  | _, .obj _ _ => false
  | _, .scr _ => false
  | _, .exc _ _ => false
def goodDs : Nat → List D → Bool
  | _, [] => true
  | n, d :: ds => goodD n d && goodDs n ds
end
mutual
def eqD : D → D → Bool
  | .non, b => match b with | .non => true | _ => false
  | .bl a, b => match b with | .bl b => a == b | .int j => (if a then (1 : Int) else 0) == j | _ => false
  | .int i, b => match b with | .bl b => i == (if b then (1 : Int) else 0) | .int j => i == j | _ => false
  | .str a, b => match b with | .str b => a == b | _ => false
  | .lst a, b => match b with | .lst b => eqDs a b | _ => false
  | .tup a, b => match b with | .tup b => eqDs a b | _ => false
  | .dct _, _ => false
  | .lck _, _ => false
  | .obj _ _, _ => false
  | .scr _, _ => false
  | .exc _ _, _ => false
def eqDs : List D → List D → Bool
  | [], b => match b with | [] => true | _ :: _ => false
  | x :: xs, b => match b with | [] => false | y :: ys => eqD x y && eqDs xs ys
end
mutual
theorem good_lay : ∀ (d : D) (n : Nat), goodD n d = true → (pyd d).canLay0 = true ∧ (pyd d).depth ≤ n
  | .non, _, _ => by simp [pyd, PyData.canLay0, PyData.depth]
  | .bl _, _, _ => by simp [pyd, PyData.canLay0, PyData.depth]
  | .int _, _, _ => by simp [pyd, PyData.canLay0, PyData.depth]
  | .str l, _, h => by
    simp only [goodD] at h
    simp only [pyd, PyData.canLay0, PyData.depth, Nat.zero_le, and_true, PyData.strOk]
    rw [← h]
    simp
  | .tup l, 0, h => by simp [goodD] at h
  | .lst l, 0, h => by simp [goodD] at h
  | .tup l, n + 1, h => by
    simp only [goodD] at h
    obtain ⟨h1, h2⟩ := goods_lay l n h
    simp only [pyd, PyData.canLay0, PyData.depth]
    exact ⟨h1, by omega⟩
  | .lst l, n + 1, h => by
    simp only [goodD] at h
    obtain ⟨h1, h2⟩ := goods_lay l n h
    simp only [pyd, PyData.canLay0, PyData.depth]
    exact ⟨h1, by omega⟩
  | .dct _, _, h => by simp [goodD] at h
  | .lck _, _, h => by simp [goodD] at h
  | .obj _ _, _, h => by simp [goodD] at h
  | .scr _, _, h => by simp [goodD] at h
  | .exc _ _, _, h => by simp [goodD] at h
theorem goods_lay : ∀ (l : List D) (n : Nat), goodDs n l = true → PyData.canLayAll0 (pyds l) = true ∧ PyData.depthAll (pyds l) ≤ n
  | [], n, _ => by simp [pyds, PyData.canLayAll0, PyData.depthAll]
  | d :: ds, n, h => by
    simp only [goodDs, Bool.and_eq_true] at h
    obtain ⟨h1, h2⟩ := good_lay d n h.1
    obtain ⟨h3, h4⟩ := goods_lay ds n h.2
    simp only [pyds, PyData.canLayAll0, PyData.depthAll, Bool.and_eq_true]
    exact ⟨⟨h1, h3⟩, by omega⟩
end
theorem good_shaped {d : D} (h : goodD 60 d = true) : SeqAt.shaped (pyd d) = true := by
  obtain ⟨h1, h2⟩ := good_lay d 60 h
  unfold SeqAt.shaped
  rw [h1, decide_eq_true (by omega)]
  rfl
section
variable {K : PySem.W.Frag} {mg : Str → Option Value} {F H : Hp}
mutual
theorem rep_dp (s : Same F H) : ∀ (d : D) (n : Nat) (v : V), goodD n d = true → rep K mg F d v → Dp K H v (pyd d)
  | .non, _, _, _, r => by simp only [rep] at r; subst r; exact .non
  | .bl b, _, _, _, r => by simp only [rep] at r; subst r; exact .bl b
  | .int i, _, _, _, r => by simp only [rep] at r; subst r; exact .int i
  | .str l, _, _, _, r => by simp only [rep] at r; subst r; exact .str _
  | .tup l, 0, _, h, _ => by simp [goodD] at h
  | .lst l, 0, _, h, _ => by simp [goodD] at h
  | .tup l, n + 1, _, h, r => by
    simp only [goodD] at h
    simp only [rep] at r
    obtain ⟨p, vs, rfl, h1, h2⟩ := r
    exact .tup (Same.sqT s h1) (reps_dp s l n vs h h2)
  | .lst l, n + 1, _, h, r => by
    simp only [goodD] at h
    simp only [rep] at r
    obtain ⟨p, vs, rfl, h1, h2⟩ := r
    exact .lst (.of (s _ _ h1)) (reps_dp s l n vs h h2)
  | .dct _, _, _, h, _ => by simp [goodD] at h
  | .lck _, _, _, h, _ => by simp [goodD] at h
  | .obj _ _, _, _, h, _ => by simp [goodD] at h
  | .scr _, _, _, h, _ => by simp [goodD] at h
  | .exc _ _, _, _, h, _ => by simp [goodD] at h
theorem reps_dp (s : Same F H) : ∀ (l : List D) (n : Nat) (vs : List V), goodDs n l = true → reps K mg F l vs → DpAll K H vs (pyds l)
  | [], _, _, _, r => by simp only [reps] at r; subst r; exact .nil
  | d :: ds, n, _, h, r => by
    simp only [goodDs, Bool.and_eq_true] at h
    simp only [reps] at r
    obtain ⟨v, vs, rfl, h1, h2⟩ := r
    exact .cons (rep_dp s d n v h.1 h1) (reps_dp s ds n vs h.2 h2)
end
theorem rdd_dp (s : Same F H) {d : D} {n : Nat} {v : V} (h : goodD n d = true) (r : Rdd K mg H F v d) : Dp K H v (pyd d) := by
  by_cases hc : cellD d = true
  · cases d <;> first | (cases hc; done) | (simp [goodD] at h; done) | skip
    rename_i l
    obtain ⟨p, vs, rfl, h1, h2⟩ := r.lst
    cases n with
    | zero => simp [goodD] at h
    | succ n =>
      simp only [goodD] at h
      exact .lst (.of h1) (reps_dp s l n vs h h2)
  · have hc : cellD d = false := by simpa using hc
    exact rep_dp s d n v h (r.of_rep hc)
end
theorem beq_str (a b : List Nat) : ((⟨a.toArray⟩ : Str) == ⟨b.toArray⟩) = (a == b) := by
  by_cases h : a = b
  · subst h; simp
  · rw [beq_eq_false_iff_ne.mpr h]
    refine beq_eq_false_iff_ne.mpr fun e => h ?_
    have := congrArg (fun s : Str => s.cps.toList) e
    simpa using this
mutual
theorem eqv_eqD : ∀ (a b : D) (n k : Nat), goodD n a = true → goodD k b = true → PyData.eqv (pyd a) (pyd b) = eqD a b
  | .non, b, _, k, _, hb => by cases b <;> first | (simp [goodD] at hb; done) | simp only [pyd, PyData.eqv, eqD]
  | .bl a, b, _, k, _, hb => by cases b <;> first | (simp [goodD] at hb; done) | simp only [pyd, PyData.eqv, eqD]
  | .int a, b, _, k, _, hb => by cases b <;> first | (simp [goodD] at hb; done) | simp only [pyd, PyData.eqv, eqD]
  | .str a, b, _, k, _, hb => by cases b <;> first | (simp [goodD] at hb; done) | simp only [pyd, PyData.eqv, eqD, beq_str]
  | .tup l, b, 0, k, ha, hb => by simp [goodD] at ha
  | .lst l, b, 0, k, ha, hb => by simp [goodD] at ha
  | .tup l, b, n + 1, k, ha, hb => by
    cases b <;> first | (simp [goodD] at hb; done) | (simp only [pyd, PyData.eqv, eqD]; done) | skip
    rename_i l'
    cases k with
    | zero => simp [goodD] at hb
    | succ k =>
      simp only [goodD] at ha hb
      simp only [pyd, PyData.eqv, eqD]
      exact eqvs_eqDs l l' n k ha hb
  | .lst l, b, n + 1, k, ha, hb => by
    cases b <;> first | (simp [goodD] at hb; done) | (simp only [pyd, PyData.eqv, eqD]; done) | skip
    rename_i l'
    cases k with
    | zero => simp [goodD] at hb
    | succ k =>
      simp only [goodD] at ha hb
      simp only [pyd, PyData.eqv, eqD]
      exact eqvs_eqDs l l' n k ha hb
  | .dct _, _, _, _, h, _ => by simp [goodD] at h
  | .lck _, _, _, _, h, _ => by simp [goodD] at h
  | .obj _ _, _, _, _, h, _ => by simp [goodD] at h
  | .scr _, _, _, _, h, _ => by simp [goodD] at h
  | .exc _ _, _, _, _, h, _ => by simp [goodD] at h
theorem eqvs_eqDs : ∀ (a b : List D) (n k : Nat), goodDs n a = true → goodDs k b = true → PyData.eqvAll (pyds a) (pyds b) = eqDs a b
  | [], b, _, _, _, _ => by cases b <;> simp only [pyds, PyData.eqvAll, eqDs]
  | x :: xs, b, n, k, ha, hb => by
    cases b with
    | nil => simp only [pyds, PyData.eqvAll, eqDs]
    | cons y ys =>
      simp only [goodDs, Bool.and_eq_true] at ha hb
      simp only [pyds, PyData.eqvAll, eqDs]
      rw [eqv_eqD x y n k ha.1 hb.1, eqvs_eqDs xs ys n k ha.2 hb.2]
end
/-- two scalars that == tells apart as data does -/
def scalD : D → D → Bool
  | .non, .non => true
  | .non, .int _ => true
  | .int _, .non => true
  | .non, .bl _ => true
  | .bl _, .non => true
  | .non, .str _ => true
  | .str _, .non => true
  | .int _, .int _ => true
  | .bl _, .bl _ => true
  | .str _, .str _ => true
  | .int _, .str _ => true
  | .str _, .int _ => true
  | .bl _, .str _ => true
  | .str _, .bl _ => true
  | _, _ => false
def dEq (a b : D) : Option D := if scalD a b = true ∨ (goodD 60 a = true ∧ goodD 60 b = true) then some (.bl (eqD a b)) else none
def dNe (a b : D) : Option D := if scalD a b = true ∨ (goodD 60 a = true ∧ goodD 60 b = true) then some (.bl (!eqD a b)) else none
theorem scal_of {K : PySem.W.Frag} {mg : Str → Option Value} {H F : Hp} {a b : D} {v w : V} (h : scalD a b = true) (ra : Rdd K mg H F v a) (rb : Rdd K mg H F w b) : scal v w = true ∧ decide (v = w) = eqD a b := by
  cases a <;> cases b <;> first | (simp [scalD] at h; done) | skip
  all_goals first | (rw [ra.non]) | (rw [ra.int]) | (rw [ra.bl]) | (rw [ra.str])
  all_goals first | (rw [rb.non]) | (rw [rb.int]) | (rw [rb.bl]) | (rw [rb.str])
  all_goals refine ⟨rfl, ?_⟩
  all_goals first | (simp only [eqD]; first | (rw [dec_int]) | (rw [dec_bl]) | (rw [dec_str, beq_str]) | exact decide_eq_false (fun e => nomatch e) | simp)
def rEqA (K : PySem.W.Frag) : R2 := fun x y H Q => rEq x y H Q ∨ rEqD K x y H Q
def rNeA (K : PySem.W.Frag) : R2 := fun x y H Q => rNe x y H Q ∨ rNeD K x y H Q
theorem op_eqA {X : Cx} (hu : X.A.units + 64 < cLine) : OpR X (compareOp .Eq) (rEqA X.K) := op_eq.or (op_eqD hu)
theorem op_neA {X : Cx} (hu : X.A.units + 64 < cLine) : OpR X (compareOp .NotEq) (rNeA X.K) := op_ne.or (op_neD hu)
theorem f_eq {K : PySem.W.Frag} {mg : Str → Option Value} : OpF K mg dEq (rEqA K) .fz := by
  intro H F v w a b d Q s ra rb hf q
  unfold dEq at hf
  split at hf <;> cases hf
  rename_i hc
  rcases hc with h | ⟨h1, h2⟩
  · obtain ⟨k1, k2⟩ := scal_of h ra rb
    exact .inl ⟨k1, by rw [k2]; exact q _ H F (Grow.refl s) (.atom rfl rfl)⟩
  · exact .inr ⟨_, _, rdd_dp s h1 ra, rdd_dp s h2 rb, good_shaped h1, good_shaped h2, by rw [eqv_eqD a b 60 60 h1 h2]; exact q _ H F (Grow.refl s) (.atom rfl rfl)⟩
theorem f_ne {K : PySem.W.Frag} {mg : Str → Option Value} : OpF K mg dNe (rNeA K) .fz := by
  intro H F v w a b d Q s ra rb hf q
  unfold dNe at hf
  split at hf <;> cases hf
  rename_i hc
  rcases hc with h | ⟨h1, h2⟩
  · obtain ⟨k1, k2⟩ := scal_of h ra rb
    exact .inl ⟨k1, by rw [k2]; exact q _ H F (Grow.refl s) (.atom rfl rfl)⟩
  · exact .inr ⟨_, _, rdd_dp s h1 ra, rdd_dp s h2 rb, good_shaped h1, good_shaped h2, by rw [eqv_eqD a b 60 60 h1 h2]; exact q _ H F (Grow.refl s) (.atom rfl rfl)⟩
end VL

set_option Elab.async false
set_option linter.all false
set_option maxRecDepth 100000
/-! VL3: comparisons by order, in, subscripts, slices, tests, arguments, built-in calls, displays. -/
namespace VL
open PySem PySem.Spec PyProof.Rows L2

/-! ### order -/
def lexLtD : List D → List D → Option Bool
  | [], [] => some false
  | [], .int _ :: r => (lexLtD [] r).bind fun _ => some true
  | .int _ :: r, [] => (lexLtD r []).bind fun _ => some false
  | .int x :: xs, .int y :: ys => (lexLtD xs ys).bind fun b => some (if x = y then b else decide (x < y))
  | _, _ => none
theorem lexLtD_ok : ∀ {a b : List D} {k : Bool}, lexLtD a b = some k → ∃ ns ms : List Int, a = ns.map D.int ∧ b = ms.map D.int ∧ HT.lexLt ns ms = k
  | [], [], _, h => by simp only [lexLtD] at h; cases h; exact ⟨[], [], rfl, rfl, rfl⟩
  | [], d :: r, k, h => by
    cases d <;> simp only [lexLtD] at h <;> first | (cases h; done) | skip
    rename_i i
    cases hr : lexLtD [] r with
    | none => rw [hr] at h; cases h
    | some q =>
      rw [hr] at h; cases h
      obtain ⟨ns, ms, e1, e2, _⟩ := lexLtD_ok hr
      have e1 : ns = [] := by cases ns with
        | nil => rfl
        | cons _ _ => cases e1
      subst e1 e2
      exact ⟨[], i :: ms, rfl, rfl, rfl⟩
  | d :: r, [], k, h => by
    cases d <;> simp only [lexLtD] at h <;> first | (cases h; done) | skip
    rename_i i
    cases hr : lexLtD r [] with
    | none => rw [hr] at h; cases h
    | some q =>
      rw [hr] at h; cases h
      obtain ⟨ns, ms, e1, e2, _⟩ := lexLtD_ok hr
      have e2 : ms = [] := by cases ms with
        | nil => rfl
        | cons _ _ => cases e2
      subst e1 e2
      exact ⟨i :: ns, [], rfl, rfl, rfl⟩
  | c :: r, d :: t, k, h => by
    cases c <;> cases d <;> simp only [lexLtD] at h <;> first | (cases h; done) | skip
    rename_i i j
    cases hr : lexLtD r t with
    | none => rw [hr] at h; cases h
    | some q =>
      rw [hr] at h; cases h
      obtain ⟨ns, ms, e1, e2, e3⟩ := lexLtD_ok hr
      subst e1 e2
      exact ⟨i :: ns, j :: ms, rfl, rfl, by rw [HT.lexLt_cons, e3]⟩
def dLt : D → D → Option D
  | .int i, .int j => some (.bl (decide (i < j)))
  | .str a, .str b => some (.bl (decide (a < b)))
  | .tup a, .tup b => (lexLtD a b).map .bl
  | _, _ => none
def dGt : D → D → Option D
  | .int i, .int j => some (.bl (decide (j < i)))
  | .str a, .str b => some (.bl (decide (b < a)))
  | _, _ => none
def dLe : D → D → Option D
  | .int i, .int j => some (.bl (decide (i ≤ j)))
  | .str a, .str b => some (.bl (!decide (b < a)))
  | _, _ => none
def dGe : D → D → Option D
  | .int i, .int j => some (.bl (decide (j ≤ i)))
  | .str a, .str b => some (.bl (!decide (a < b)))
  | _, _ => none
section
variable {X : Cx} {K : PySem.W.Frag} {mg : Str → Option Value}
def rLtA (K : PySem.W.Frag) : R2 := fun x y H Q => rI0 (fun i j => .bl (decide (i < j))) x y H Q ∨ ((∃ i j, x = .str i ∧ y = .str j ∧ Q (.bl (decide (i.cps.toList < j.cps.toList))) H) ∨ rLtT K x y H Q)
theorem op_ltA (hu : X.A.units < cLine) : OpR X (compareOp .Lt) (rLtA X.K) := op_lt.or (op_lt_str.or (op_ltT hu))
theorem f_lt : OpF K mg dLt (rLtA K) .fz := by
  intro H F v w a b d Q s ra rb hf q
  unfold dLt at hf
  split at hf
  · cases hf
    exact .inl ⟨_, _, ra.int, rb.int, q _ H F (Grow.refl s) (.atom rfl rfl)⟩
  · cases hf
    exact .inr (.inl ⟨_, _, ra.str, rb.str, q _ H F (Grow.refl s) (.atom rfl rfl)⟩)
  · rename_i x y
    cases hl : lexLtD x y with
    | none => rw [hl] at hf; cases hf
    | some k =>
      rw [hl] at hf; cases hf
      obtain ⟨ns, ms, e1, e2, e3⟩ := lexLtD_ok hl
      subst e1 e2 e3
      obtain ⟨p, vs, rfl, h1, h2⟩ := ra.tup
      obtain ⟨p', vs', rfl, h1', h2'⟩ := rb.tup
      rw [reps_ints h2] at h1
      rw [reps_ints h2'] at h1'
      exact .inr (.inr ⟨p, p', ns, ms, rfl, rfl, Same.sqT s h1, Same.sqT s h1', q _ H F (Grow.refl s) (.atom rfl rfl)⟩)
  · cases hf
theorem f_cmp2 {f : D → D → Option D} {p : Int → Int → Bool} {g : List Nat → List Nat → Bool} (h : ∀ a b d, f a b = some d → (∃ i j, a = .int i ∧ b = .int j ∧ d = .bl (p i j)) ∨ (∃ i j, a = .str i ∧ b = .str j ∧ d = .bl (g i j))) :
    OpF K mg f (fun x y H Q => rI0 (fun i j => .bl (p i j)) x y H Q ∨ ∃ i j, x = .str i ∧ y = .str j ∧ Q (.bl (g i.cps.toList j.cps.toList)) H) .fz := by
  intro H F v w a b d Q s ra rb hf q
  rcases h a b d hf with ⟨i, j, rfl, rfl, rfl⟩ | ⟨i, j, rfl, rfl, rfl⟩
  · exact .inl ⟨_, _, ra.int, rb.int, q _ H F (Grow.refl s) (.atom rfl rfl)⟩
  · exact .inr ⟨_, _, ra.str, rb.str, q _ H F (Grow.refl s) (.atom rfl rfl)⟩
theorem op_gtA : OpR X (compareOp .Gt) (fun x y H Q => rI0 (fun i j => .bl (decide (j < i))) x y H Q ∨ ∃ i j, x = .str i ∧ y = .str j ∧ Q (.bl (decide (j.cps.toList < i.cps.toList))) H) := op_gt.or op_gt_str
theorem op_leA : OpR X (compareOp .LtE) (fun x y H Q => rI0 (fun i j => .bl (decide (i ≤ j))) x y H Q ∨ ∃ i j, x = .str i ∧ y = .str j ∧ Q (.bl (!decide (j.cps.toList < i.cps.toList))) H) := op_le.or op_le_str
theorem op_geA : OpR X (compareOp .GtE) (fun x y H Q => rI0 (fun i j => .bl (decide (j ≤ i))) x y H Q ∨ ∃ i j, x = .str i ∧ y = .str j ∧ Q (.bl (!decide (i.cps.toList < j.cps.toList))) H) := op_ge.or op_ge_str
theorem f_gt : OpF K mg dGt (fun x y H Q => rI0 (fun i j => .bl (decide (j < i))) x y H Q ∨ ∃ i j, x = .str i ∧ y = .str j ∧ Q (.bl (decide (j.cps.toList < i.cps.toList))) H) .fz :=
  f_cmp2 (p := fun i j => decide (j < i)) (g := fun i j => decide (j < i)) fun a b d h => by
    unfold dGt at h; split at h <;> cases h
    · exact .inl ⟨_, _, rfl, rfl, rfl⟩
    · exact .inr ⟨_, _, rfl, rfl, rfl⟩
theorem f_le : OpF K mg dLe (fun x y H Q => rI0 (fun i j => .bl (decide (i ≤ j))) x y H Q ∨ ∃ i j, x = .str i ∧ y = .str j ∧ Q (.bl (!decide (j.cps.toList < i.cps.toList))) H) .fz :=
  f_cmp2 (p := fun i j => decide (i ≤ j)) (g := fun i j => !decide (j < i)) fun a b d h => by
    unfold dLe at h; split at h <;> cases h
    · exact .inl ⟨_, _, rfl, rfl, rfl⟩
    · exact .inr ⟨_, _, rfl, rfl, rfl⟩
theorem f_ge : OpF K mg dGe (fun x y H Q => rI0 (fun i j => .bl (decide (j ≤ i))) x y H Q ∨ ∃ i j, x = .str i ∧ y = .str j ∧ Q (.bl (!decide (i.cps.toList < j.cps.toList))) H) .fz :=
  f_cmp2 (p := fun i j => decide (j ≤ i)) (g := fun i j => !decide (i < j)) fun a b d h => by
    unfold dGe at h; split at h <;> cases h
    · exact .inl ⟨_, _, rfl, rfl, rfl⟩
    · exact .inr ⟨_, _, rfl, rfl, rfl⟩

/-! ### in -/
def flatD : D → Bool
  | .non => true
  | .bl _ => true
  | .int _ => true
  | .str _ => true
  | _ => false
def anyEq (x : D) : List D → Bool
  | [] => false
  | y :: ys => eqD y x || anyEq x ys
def dInB : D → D → Option Bool
  | x, .lst l => if goodD 59 x = true ∧ goodDs 59 l = true then some (anyEq x l) else none
  | x, .tup l => if flatD x = true ∧ l.all flatD = true then some (anyEq x l) else none
  | .str [c], .str l => some (decide (c ∈ l))
  | _, _ => none
def dIn (a b : D) : Option D := (dInB a b).map .bl
def dNotIn (a b : D) : Option D := (dInB a b).map fun k => .bl (!k)
theorem flat_rdd {d : D} {v : V} {F : Hp} (h : flatD d = true) (r : rep K mg F d v) : flatV v = true := by
  cases d <;> first | (cases h; done) | skip
  all_goals simp only [rep] at r; subst r; rfl
theorem flat_eq {x y : D} {v w : V} {F F' : Hp} (hx : flatD x = true) (hy : flatD y = true) (rx : rep K mg F x v) (ry : rep K mg F' y w) : eqV w v = eqD y x := by
  cases x <;> first | (cases hx; done) | skip
  all_goals cases y <;> first | (cases hy; done) | skip
  all_goals simp only [rep] at rx ry; subst rx ry; simp only [eqV, eqD, beq_str]
theorem flat_any {x : D} {v : V} {F F' : Hp} (hx : flatD x = true) (rx : rep K mg F x v) : ∀ {l : List D} {vs : List V}, l.all flatD = true → reps K mg F' l vs → inV v vs = anyEq x l ∧ vs.all flatV = true
  | [], _, _, r => by simp only [reps] at r; subst r; exact ⟨rfl, rfl⟩
  | y :: ys, _, h, r => by
    simp only [List.all_cons, Bool.and_eq_true] at h
    simp only [reps] at r
    obtain ⟨w, ws, rfl, h1, h2⟩ := r
    obtain ⟨k1, k2⟩ := flat_any hx rx h.2 h2
    refine ⟨?_, by simp only [List.all_cons, Bool.and_eq_true]; exact ⟨flat_rdd h.1 h1, k2⟩⟩
    show (eqV w v || inV v ws) = (eqD y x || anyEq x ys)
    rw [flat_eq hx h.1 rx h1, k1]
theorem any_eqv {x : D} (hx : goodD 59 x = true) : ∀ {l : List D}, goodDs 59 l = true → ((pyds l).any fun z => PyData.eqv z (pyd x)) = anyEq x l
  | [], _ => rfl
  | y :: ys, h => by
    simp only [goodDs, Bool.and_eq_true] at h
    simp only [pyds, List.any_cons, anyEq]
    rw [eqv_eqD y x 59 59 h.1 hx, any_eqv hx h.2]
def rInA (K : PySem.W.Frag) : R2 := fun x y H Q => rInD K x y H Q ∨ (rIn K false x y H Q ∨ ∃ (c : Nat) (z : Str), x = .str ⟨#[c]⟩ ∧ y = .str z ∧ Q (.bl (decide (c ∈ z.cps.toList))) H)
def rNotInA (K : PySem.W.Frag) : R2 := fun x y H Q => rNotInD K x y H Q ∨ (rIn K true x y H Q ∨ ∃ (c : Nat) (z : Str), x = .str ⟨#[c]⟩ ∧ y = .str z ∧ Q (.bl (!decide (c ∈ z.cps.toList))) H)
theorem op_inA (hu : X.A.units + 65 < cLine) : OpR X (compareOp .In) (rInA X.K) := (op_inD hu).or (op_in_seq.or op_in_sign)
theorem op_notInA (hu : X.A.units + 65 < cLine) : OpR X (compareOp .NotIn) (rNotInA X.K) := (op_notInD hu).or (op_notIn_seq.or op_notIn_sign)
theorem shaped_up {l : List D} (h : goodDs 59 l = true) : SeqAt.shaped (.list (pyds l)) = true := by
  have : goodD 60 (.lst l) = true := by simpa only [goodD] using h
  exact good_shaped this
theorem shaped59 {d : D} (h : goodD 59 d = true) : SeqAt.shaped (pyd d) = true := by
  obtain ⟨h1, h2⟩ := good_lay d 59 h
  unfold SeqAt.shaped
  rw [h1, decide_eq_true (by omega)]
  rfl
theorem f_inB {neg : Bool} {H F : Hp} {v w : V} {a b : D} {k : Bool} {Q : VK} (s : Same F H) (ra : Rdd K mg H F v a) (rb : Rdd K mg H F w b) (hf : dInB a b = some k) (q : Q (.bl (if neg then !k else k)) H) :
    (∃ d ds, Dp K H v d ∧ Dp K H w (.list ds) ∧ SeqAt.shaped d = true ∧ SeqAt.shaped (.list ds) = true ∧ Q (.bl (if neg then !(ds.any fun z => PyData.eqv z d) else ds.any fun z => PyData.eqv z d)) H) ∨
    (rIn K neg v w H Q ∨ ∃ (c : Nat) (z : Str), v = .str ⟨#[c]⟩ ∧ w = .str z ∧ Q (.bl (if neg then !decide (c ∈ z.cps.toList) else decide (c ∈ z.cps.toList))) H) := by
  unfold dInB at hf
  split at hf
  · rename_i l
    split at hf <;> cases hf
    rename_i h
    obtain ⟨p, vs, rfl, h1, h2⟩ := rb.lst
    exact .inl ⟨_, _, rdd_dp s h.1 ra, .lst (.of h1) (reps_dp s l 59 vs h.2 h2), shaped59 h.1, shaped_up h.2, by rw [any_eqv h.1 h.2]; exact q⟩
  · rename_i l
    split at hf <;> cases hf
    rename_i h
    obtain ⟨p, vs, rfl, h1, h2⟩ := rb.tup
    have hc : cellD a = false := by cases a <;> first | (cases h.1; done) | rfl
    obtain ⟨k1, k2⟩ := flat_any h.1 (ra.of_rep hc) h.2 h2
    exact .inr (.inl ⟨p, vs, rfl, .inr (Same.sqT s h1), flat_rdd h.1 (ra.of_rep hc), k2, by rw [k1]; exact q⟩)
  · cases hf
    refine .inr (.inr ⟨_, _, ra.str, rb.str, ?_⟩)
    exact q
  · cases hf
theorem f_in : OpF K mg dIn (rInA K) .fz := by
  intro H F v w a b d Q s ra rb hf q
  unfold dIn at hf
  cases hk : dInB a b with
  | none => rw [hk] at hf; cases hf
  | some k =>
    rw [hk] at hf; cases hf
    exact f_inB (neg := false) s ra rb hk (q _ H F (Grow.refl s) (.atom rfl rfl))
theorem f_notIn : OpF K mg dNotIn (rNotInA K) .fz := by
  intro H F v w a b d Q s ra rb hf q
  unfold dNotIn at hf
  cases hk : dInB a b with
  | none => rw [hk] at hf; cases hf
  | some k =>
    rw [hk] at hf; cases hf
    exact f_inB (neg := true) s ra rb hk (q _ H F (Grow.refl s) (.atom rfl rfl))

/-! ### is None -/
def isNonD : D → Bool
  | .non => true
  | _ => false
def dIsN (a b : D) : Option D := if isNonD b = true then some (.bl (isNonD a)) else none
def dNotN (a b : D) : Option D := if isNonD b = true then some (.bl (!isNonD a)) else none
theorem rdd_isN {H F : Hp} {v : V} {a : D} (ra : Rdd K mg H F v a) : decide (v = V.non) = isNonD a := by
  cases a with
  | non => rw [ra.non]; rfl
  | bl b => rw [ra.bl]; rfl
  | int i => rw [ra.int]; rfl
  | str l => rw [ra.str]; rfl
  | tup l => obtain ⟨p, vs, rfl, _⟩ := ra.tup; rfl
  | lst l => obtain ⟨p, vs, rfl, _⟩ := ra.lst; rfl
  | scr l => obtain ⟨p, rfl, _⟩ := ra.scr; rfl
  | exc c l =>
    have h := Rdd.of_rep rfl ra
    simp only [rep] at h
    obtain ⟨p, rfl⟩ := h
    rfl
  | lck l =>
    have h := Rdd.of_rep rfl ra
    simp only [rep] at h
    obtain ⟨p, z, xs, rfl, _⟩ := h
    rfl
  | dct l =>
    unfold Rdd at ra
    rw [if_pos (show cellD (.dct l) = true from rfl)] at ra
    obtain ⟨p, o, rfl, _⟩ := ra; rfl
  | obj c l =>
    unfold Rdd at ra
    rw [if_pos (show cellD (.obj c l) = true from rfl)] at ra
    obtain ⟨p, o, rfl, _⟩ := ra; rfl
theorem f_isN : OpF K mg dIsN (fun x y H Q => y = .non ∧ Q (.bl (decide (x = .non))) H) .fz := by
  intro H F v w a b d Q s ra rb hf q
  unfold dIsN at hf
  split at hf <;> cases hf
  rename_i h
  cases b <;> first | (cases h; done) | skip
  exact ⟨rb.non, by rw [rdd_isN ra]; exact q _ H F (Grow.refl s) (.atom rfl rfl)⟩
theorem f_notN : OpF K mg dNotN (fun x y H Q => y = .non ∧ Q (.bl (!decide (x = .non))) H) .fz := by
  intro H F v w a b d Q s ra rb hf q
  unfold dNotN at hf
  split at hf <;> cases hf
  rename_i h
  cases b <;> first | (cases h; done) | skip
  exact ⟨rb.non, by rw [rdd_isN ra]; exact q _ H F (Grow.refl s) (.atom rfl rfl)⟩

/-! ### subscripts -/
def dIx : D → D → Option D
  | .lst l, .int i => atI l i
  | .tup l, .int i => atI l i
  | .str l, .int i => if l.length ≤ 16777216 then (atI l i).map fun c => .str [c] else none
  | _, _ => none
theorem atI_reps {l : List D} {vs : List V} {F : Hp} {i : Int} {d : D} (r : reps K mg F l vs) (h : atI l i = some d) : ∃ v, atI vs i = some v ∧ rep K mg F d v := by
  unfold atI at h ⊢
  rw [reps_length r]
  cases hi : ixN l.length i with
  | none => rw [hi] at h; cases h
  | some j =>
    rw [hi] at h
    exact reps_get r h
theorem f_ix : OpF K mg dIx (rIx K) .fz := by
  intro H F v w a b d Q s ra rb hf q
  unfold dIx at hf
  split at hf
  · obtain ⟨p, vs, rfl, h1, h2⟩ := ra.lst
    obtain ⟨x, h3, h4⟩ := atI_reps h2 hf
    exact .inl ⟨p, vs, _, x, rfl, rb.int, .of h1, h3, q _ H F (Grow.refl s) h4⟩
  · obtain ⟨p, vs, rfl, h1, h2⟩ := ra.tup
    obtain ⟨x, h3, h4⟩ := atI_reps h2 hf
    exact .inr (.inl ⟨p, vs, _, x, rfl, rb.int, Same.sqT s h1, h3, q _ H F (Grow.refl s) h4⟩)
  · rename_i l i
    split at hf
    · rename_i hl
      cases hc : atI l i with
      | none => rw [hc] at hf; cases hf
      | some c =>
        rw [hc] at hf; cases hf
        exact .inr (.inr ⟨_, i, c, ra.str, rb.int, by rw [sizeLine_eq]; simpa [Str.length] using hl, by simpa using hc, q _ H F (Grow.refl s) (by simp only [NewOk, rep])⟩)
    · cases hf
  · cases hf
end
end VL

set_option Elab.async false
set_option linter.all false
set_option maxRecDepth 100000
/-! VL4: slices, tests, arguments, built-in calls, displays. -/
namespace VL
open PySem PySem.Spec PyProof.Rows L2

/-! ### slices -/
def cutA {α : Type} (l : List α) (lo hi : Option Int) : List α := (l.drop (HT.sIx l.length 0 lo)).take (HT.sIx l.length l.length hi - HT.sIx l.length 0 lo)
def dSlice : D → Option Int → Option Int → Option D
  | .lst l, lo, hi => some (.lst (cutA l lo hi))
  | .tup l, lo, hi => some (.tup (cutA l lo hi))
  | .str l, lo, hi => if l.length ≤ 16777216 then some (.str (cutA l lo hi)) else none
  | _, _, _ => none
def runI : Option Ev → Env → Res (Option Int × Env)
  | none, ρ => .ok (none, ρ)
  | some f, ρ => (f ρ).bind fun r => match r.1 with
    | .int i => .ok (some i, r.2)
    | _ => .bad
def eSl (oa : Opd) (lo hi : Option Ev) : Ev := fun ρ => (oa.run ρ).bind fun p => (runI lo p.2).bind fun q => (runI hi q.2).bind fun r => (oa.fin p.1 r.2).bind fun da => (opt (dSlice da q.1 r.1)).bind fun d => .ok (d, r.2)
section
variable (X : Cx) (Γ Γ' : Gm) (W : WE)
def trO (f : Option Ev) : TO := fun σ H Q => ∃ ρ F, Rel X.K X.mg Γ ρ σ H F ∧ (runI f ρ).sat
  (fun r => ∀ H' F', Evo (Own Γ ρ σ) H F (Own Γ' r.2 σ) H' F' → Rel X.K X.mg Γ' r.2 σ H' F' → Q r.1 H') (exW W Γ ρ σ H F)
abbrev VPO (e : Option Expr) (f : Option Ev) : Prop := PO X e (trO X Γ Γ' W f)
end
theorem fin_sat {α : Type} {o : Opd} {od : Option D} {ρ : Env} {f : D → Res α} {P : α → Prop} {E : Exn → Prop} (h : ((o.fin od ρ).bind f).sat P E) : ∃ d, o.fin od ρ = .ok d ∧ (f d).sat P E := by
  cases hf : o.fin od ρ with
  | ok d => rw [hf] at h; exact ⟨d, rfl, h⟩
  | bad => rw [hf] at h; exact h.elim
  | exn x =>
    exfalso
    cases o with
    | slot i =>
      rcases gv_cases ρ i with ⟨d, e, _⟩ | e
      · have hf : gv ρ i = .exn x := hf
        rw [e] at hf; cases hf
      · have hf : gv ρ i = .exn x := hf
        rw [e] at hf; cases hf
    | ex f => cases od <;> cases hf
section
variable {X : Cx} {Γ Γ' Γ1 Γ2 Γ3 : Gm} {W : WE} {e a b c : Expr} {pos p2 : Pos} {m : Md} {ev : Ev} {et : Et} {oa ob : Opd} {lo hi : Option Expr} {fl fh : Option Ev}
theorem poImp {e : Option Expr} {t t' : TO} (h : PO X e t) (i : ∀ σ H Q, t' σ H Q → t σ H Q) : PO X e t' := ⟨fun pins s σ H Q I q => h.run pins s σ H Q I (i σ H Q q)⟩
theorem vpo_none : VPO X Γ Γ W none none := poImp po_none fun σ H Q ⟨ρ, F, r, q⟩ => q H F (Evo.refl r.sub) r
theorem vpo_some (h : VE X Γ Γ' W e .fz ev) : VPO X Γ Γ' W (some e) (some ev) := poImp (po_some h) fun σ H Q ⟨ρ, F, r, q⟩ =>
  ⟨ρ, F, r, Res.sat_imp (Res.sat_bind.mp q) (fun z _ q v H' F' e1 r1 vo => by
    cases hz : z.1 <;> rw [hz] at q <;> first | exact q.elim | skip
    rename_i i
    rw [hz] at vo
    exact ⟨i, vo, q H' F' e1 r1⟩) fun _ h => h⟩
def rSlAll (K : PySem.W.Frag) : V → Option Int → Option Int → Hp → VK → Prop := fun x lo hi H Q => rSlL K x lo hi H Q ∨ (rSlA K x lo hi H Q ∨ rSlS x lo hi H Q)
theorem sl_all : SlR X (rSlAll X.K) := sl_list.or (sl_tupA.or sl_str)
theorem reps_cut {K : PySem.W.Frag} {mg : Str → Option Value} {F : Hp} {l : List D} {vs : List V} (lo hi : Option Int) (h : reps K mg F l vs) : reps K mg F (cutA l lo hi) (cutV vs lo hi) := by
  unfold cutA cutV
  rw [reps_length h]
  exact reps_take _ (reps_drop _ h)
theorem ve_slice (ha : VB X Γ Γ1 W a oa) (hl : VPO X Γ1 Γ2 W lo fl) (hh : VPO X Γ2 Γ3 W hi fh) : VE X Γ Γ3 W (.Subscript a (.Slice lo hi none p2) pos) .own (eSl oa fl fh) :=
  peImp (pe_slice sl_all ha hl hh) fun σ H Q ⟨ρ, F, r, q⟩ =>
    ⟨ρ, F, r, Res.sat_imp (Res.sat_bind.mp q) (fun p _ q v H1 F1 e1 r1 b1 => ⟨p.2, F1, r1, Res.sat_imp (Res.sat_bind.mp q) (fun z _ q H2 F2 e2 r2 => ⟨z.2, F2, r2, Res.sat_imp (Res.sat_bind.mp q) (fun w _ q H3 F3 e3 r3 => by
      obtain ⟨da, hda, q⟩ := fin_sat q
      obtain ⟨d, hd, q⟩ := opt_sat (Res.sat_bind.mp q)
      have rd := b1.fin r3 (e2.trans e3) hda
      have ev := e1.trans (e2.trans e3)
      have fin : ∀ (u : V) (H' F' : Hp), Grow H3 F3 H' F' → NewOk X.K X.mg .own H3 H' F' u d → Q u H' := fun u H' F' g n =>
        q u H' F' (ev.trans g.evo) (r3.grow g) (by
          have n' := n.val r3
          exact ⟨n'.1, fun c p e => ⟨ev.dom p (n'.2 c p e).1, (n'.2 c p e).2⟩⟩)
      unfold dSlice at hd
      cases da <;> first | (cases hd; done) | skip
      · rename_i l
        dsimp only at hd
        split at hd <;> cases hd
        rename_i hl
        refine .inr (.inr ⟨_, rd.str, by rw [sizeLine_eq]; simpa [Str.length] using hl, ?_⟩)
        have : cutS ⟨l.toArray⟩ z.1 w.1 = ⟨(cutA l z.1 w.1).toArray⟩ := by
          unfold cutS cutA
          simp [Str.length]
        rw [this]
        exact fin _ H3 F3 (Grow.refl r3.sub) (.atom rfl (by simp only [rep]))
      · rename_i l
        cases hd
        obtain ⟨p, vs, rfl, h1, h2⟩ := rd.tup
        refine .inr (.inl ⟨p, vs, rfl, Same.sqT r3.sub h1, fun hw => ?_, fun hw n hn => ?_⟩)
        · refine fin _ H3 F3 (Grow.refl r3.sub) (.atom rfl ?_)
          have : cutA l z.1 w.1 = l := by
            unfold cutA
            rw [← reps_length h2, hw.1, hw.2]
            simp [reps_length h2]
          rw [this]
          simp only [rep]
          exact ⟨p, vs, rfl, h1, h2⟩
        · exact fin _ _ _ (Grow.newF r3.sub hn) (.atom rfl (rep_tup_new hn r3.sub (reps_cut _ _ h2)))
      · rename_i l
        cases hd
        obtain ⟨p, vs, rfl, h1, h2⟩ := rd.lst
        exact .inl ⟨p, vs, rfl, .of h1, fun n hn => fin _ _ F3 (Grow.newO r3.sub hn) (.newL hn r3.sub (reps_cut _ _ h2))⟩) fun _ h => (h.evo e1).evo e2⟩) fun _ h => h.evo e1⟩) fun _ h => h⟩
end

/-! ### tests -/
def eTB (ev : Ev) : Et := fun ρ => (ev ρ).bind fun r => match r.1 with
  | .bl b => .ok (b, r.2)
  | _ => .bad
def truD : D → Option Bool
  | .non => some false
  | .bl b => some b
  | .int i => some (i != 0)
  | .str l => if l.length ≤ 16777216 then some (!l.isEmpty) else none
  | .lst l => some (!l.isEmpty)
  | .tup l => some (!l.isEmpty)
  | _ => none
def eTru (o : Opd) : Et := fun ρ => (o.run ρ).bind fun p => (o.fin p.1 p.2).bind fun d => (opt (truD d)).bind fun b => .ok (b, p.2)
def eAnd (a b : Et) : Et := fun ρ => (a ρ).bind fun r => if r.1 = true then b r.2 else .ok (false, r.2)
def eOr (a b : Et) : Et := fun ρ => (a ρ).bind fun r => if r.1 = true then .ok (true, r.2) else b r.2
def eNot (a : Et) : Et := fun ρ => (a ρ).bind fun r => .ok (!r.1, r.2)
section
variable {X : Cx} {Γ Γ' Γ1 Γ2 Γ3 : Gm} {W : WE} {e a b c : Expr} {pos p2 : Pos} {m : Md} {ev eva evb : Ev} {et eta etb : Et} {oa ob : Opd} {rest : List Expr}
theorem trT_of {σ : St} {H : Hp} {Q : Bool → Hp → Prop} (h : trT X Γ Γ' W (eTB ev) σ H Q) : trE X Γ Γ' W .fz ev σ H fun x H' => ∃ k, x = .bl k ∧ Q k H' := by
  obtain ⟨ρ, F, r, q⟩ := h
  refine ⟨ρ, F, r, Res.sat_imp (Res.sat_bind.mp q) (fun z _ q v H' F' e1 r1 vo => ?_) fun _ h => h⟩
  cases hz : z.1 <;> rw [hz] at q <;> first | exact q.elim | skip
  rename_i k
  rw [hz] at vo
  exact ⟨k, vo, q H' F' e1 r1⟩
theorem vt_cmp {op : CmpOp} {r : R2} {f : D → D → Option D} (ho : OpR X (compareOp op) r) (hf : OpF X.K X.mg f r .fz) (ha : VB X Γ Γ1 W a oa) (hb : VB X Γ1 Γ2 W b ob) (hm : behindInMarks op b = false) : VT X Γ Γ2 W (.Compare a [op] [b] pos) (eTB (eBin f oa ob)) :=
  ptImp (pt_cmpR ho ha hb hm) fun _ _ _ h => ve_two hf (trT_of h)
theorem vt_val (h : VE X Γ Γ' W e .fz ev) (he : ∀ whole, isTrue e X.env whole = (do let v ← whole; standAt e.pos; holding [v] (truthy v)) := by intro _; rfl) : VT X Γ Γ' W e (eTB ev) :=
  ptImp (pt_val h he) fun _ _ _ h => trT_of h
theorem rdd_tru {K : PySem.W.Frag} {mg : Str → Option Value} {H F : Hp} {v : V} {d : D} {k : Bool} (s : Same F H) (r : Rdd K mg H F v d) (h : truD d = some k) : TruV K v H k := by
  cases d <;> simp only [truD] at h <;> first | (cases h; done) | skip
  · rw [r.non]; cases h; rfl
  · rw [r.bl]; cases h; rfl
  · rw [r.int]; cases h; rfl
  · rename_i l
    rw [r.str]
    split at h <;> cases h
    rename_i hl
    refine ⟨by rw [sizeLine_eq]; simpa [Str.length] using hl, ?_⟩
    cases l <;> simp [Str.length]
    omega
  · rename_i l
    obtain ⟨p, vs, rfl, h1, h2⟩ := r.tup
    cases h
    refine .inr (.inl ⟨vs, Same.sqT s h1, ?_⟩)
    have := reps_length h2
    cases l <;> cases vs <;> simp_all
  · rename_i l
    obtain ⟨p, vs, rfl, h1, h2⟩ := r.lst
    cases h
    refine .inl ⟨vs, .of h1, ?_⟩
    have := reps_length h2
    cases l <;> cases vs <;> simp_all
theorem vt_tru (h : VB X Γ Γ' W e oa) (he : ∀ whole, isTrue e X.env whole = (do let v ← whole; standAt e.pos; holding [v] (truthy v)) := by intro _; rfl) : VT X Γ Γ' W e (eTru oa) :=
  ptImp (pt_truth h he) fun σ H Q ⟨ρ, F, r, q⟩ => ⟨ρ, F, r, Res.sat_imp (Res.sat_bind.mp q) (fun z _ q v H' F' e1 r1 b1 => by
    obtain ⟨d, hd, q⟩ := fin_sat q
    obtain ⟨k, hk, q⟩ := opt_sat (Res.sat_bind.mp q)
    exact ⟨k, rdd_tru r1.sub (b1.fin r1 (Evo.refl r1.sub) hd) hk, q H' F' e1 r1⟩) fun _ h => h⟩
/-- a chain of and, or -/
abbrev VW (X : Cx) (Γ Γ' : Gm) (W : WE) (e : Expr) (ev : Et) : Prop := PW X e (trT X Γ Γ' W ev)
theorem pwImp {t t' : TT} (h : PW X e t) (i : ∀ σ H Q, t' σ H Q → t σ H Q) : PW X e t' := ⟨fun wh pins s σ H Q I q => h.run wh pins s σ H Q I (i σ H Q q)⟩
theorem vw_and1 (h : VT X Γ Γ' W a et) : VW X Γ Γ' W (.BoolOp .And [a] pos) et := pw_and1 h
theorem vw_or1 (h : VT X Γ Γ' W a et) : VW X Γ Γ' W (.BoolOp .Or [a] pos) et := pw_or1 h
theorem vw_and (ha : VT X Γ Γ W a eta) (hb : VW X Γ Γ W (.BoolOp .And (b :: rest) pos) etb) : VW X Γ Γ W (.BoolOp .And (a :: b :: rest) pos) (eAnd eta etb) :=
  pwImp (pw_and ha hb) fun σ H Q ⟨ρ, F, r, q⟩ => ⟨ρ, F, r, Res.sat_imp (Res.sat_bind.mp q) (fun z _ q H' F' e1 r1 => by
    dsimp only
    split
    · rename_i hz
      rw [if_pos hz] at q
      exact ⟨z.2, F', r1, Res.sat_imp q (fun w _ q H2 F2 e2 r2 => q H2 F2 (e1.trans e2) r2) fun _ h => h.evo e1⟩
    · rename_i hz
      rw [if_neg hz] at q
      exact q H' F' e1 r1) fun _ h => h⟩
theorem vw_or (ha : VT X Γ Γ W a eta) (hb : VW X Γ Γ W (.BoolOp .Or (b :: rest) pos) etb) : VW X Γ Γ W (.BoolOp .Or (a :: b :: rest) pos) (eOr eta etb) :=
  pwImp (pw_or ha hb) fun σ H Q ⟨ρ, F, r, q⟩ => ⟨ρ, F, r, Res.sat_imp (Res.sat_bind.mp q) (fun z _ q H' F' e1 r1 => by
    dsimp only
    split
    · rename_i hz
      rw [if_pos hz] at q
      exact q H' F' e1 r1
    · rename_i hz
      rw [if_neg hz] at q
      exact ⟨z.2, F', r1, Res.sat_imp q (fun w _ q H2 F2 e2 r2 => q H2 F2 (e1.trans e2) r2) fun _ h => h.evo e1⟩) fun _ h => h⟩
theorem vt_bool (h : VW X Γ Γ' W e et) : VT X Γ Γ' W e et := h.pt
theorem vt_not (h : VT X Γ Γ' W a et) : VT X Γ Γ' W (.UnaryOp .Not a pos) (eNot et) :=
  ptImp (pt_not h) fun σ H Q ⟨ρ, F, r, q⟩ => ⟨ρ, F, r, Res.sat_imp (Res.sat_bind.mp q) (fun z _ q H' F' e1 r1 => q H' F' e1 r1) fun _ h => h⟩
/-- and, or, not as values (bools) -/
def eAndV (a b : Ev) : Ev := fun ρ => (a ρ).bind fun r => match r.1 with
  | .bl true => b r.2
  | .bl false => .ok (.bl false, r.2)
  | _ => .bad
def eOrV (a b : Ev) : Ev := fun ρ => (a ρ).bind fun r => match r.1 with
  | .bl true => .ok (.bl true, r.2)
  | .bl false => b r.2
  | _ => .bad
def eNotV (a : Ev) : Ev := fun ρ => (a ρ).bind fun r => match r.1 with
  | .bl b => .ok (.bl (!b), r.2)
  | _ => .bad
theorem ve_one {op} (h : VE X Γ Γ' W a m ev) : VE X Γ Γ' W (.BoolOp op [a] pos) m ev := pe_one h
theorem ve_and (ha : VE X Γ Γ W a .fz eva) (hb : VE X Γ Γ W (.BoolOp .And (b :: rest) pos) .fz evb) : VE X Γ Γ W (.BoolOp .And (a :: b :: rest) pos) .fz (eAndV eva evb) :=
  peImp (pe_and ha hb) fun σ H Q ⟨ρ, F, r, q⟩ => ⟨ρ, F, r, Res.sat_imp (Res.sat_bind.mp q) (fun z _ q v H' F' e1 r1 vo => by
    cases hz : z.1 <;> rw [hz] at q <;> first | exact q.elim | skip
    rename_i k
    rw [hz] at vo
    refine ⟨k, vo, ?_⟩
    cases k with
    | true => exact ⟨z.2, F', r1, Res.sat_imp q (fun w _ q v2 H2 F2 e2 r2 v3 => q v2 H2 F2 (e1.trans e2) r2 v3) fun _ h => h.evo e1⟩
    | false => exact q _ H' F' e1 r1 rfl) fun _ h => h⟩
theorem ve_or (ha : VE X Γ Γ W a .fz eva) (hb : VE X Γ Γ W (.BoolOp .Or (b :: rest) pos) .fz evb) : VE X Γ Γ W (.BoolOp .Or (a :: b :: rest) pos) .fz (eOrV eva evb) :=
  peImp (pe_or ha hb) fun σ H Q ⟨ρ, F, r, q⟩ => ⟨ρ, F, r, Res.sat_imp (Res.sat_bind.mp q) (fun z _ q v H' F' e1 r1 vo => by
    cases hz : z.1 <;> rw [hz] at q <;> first | exact q.elim | skip
    rename_i k
    rw [hz] at vo
    refine ⟨k, vo, ?_⟩
    cases k with
    | false => exact ⟨z.2, F', r1, Res.sat_imp q (fun w _ q v2 H2 F2 e2 r2 v3 => q v2 H2 F2 (e1.trans e2) r2 v3) fun _ h => h.evo e1⟩
    | true => exact q _ H' F' e1 r1 rfl) fun _ h => h⟩
theorem ve_not (h : VE X Γ Γ' W a .fz ev) : VE X Γ Γ' W (.UnaryOp .Not a pos) .fz (eNotV ev) :=
  peImp (pe_not h) fun σ H Q ⟨ρ, F, r, q⟩ => ⟨ρ, F, r, Res.sat_imp (Res.sat_bind.mp q) (fun z _ q v H' F' e1 r1 vo => by
    cases hz : z.1 <;> rw [hz] at q <;> first | exact q.elim | skip
    rename_i k
    rw [hz] at vo
    exact ⟨k, vo, q _ H' F' e1 r1 rfl⟩) fun _ h => h⟩
/-- not e by truth -/
def eNotT (o : Opd) : Ev := fun ρ => (o.run ρ).bind fun p => (o.fin p.1 p.2).bind fun d => (opt (truD d)).bind fun b => .ok (.bl (!b), p.2)
theorem ve_notT (h : VB X Γ Γ' W a oa) : VE X Γ Γ' W (.UnaryOp .Not a pos) .fz (eNotT oa) :=
  peImp (pe_notT h) fun σ H Q ⟨ρ, F, r, q⟩ => ⟨ρ, F, r, Res.sat_imp (Res.sat_bind.mp q) (fun z _ q v H' F' e1 r1 b1 => by
    obtain ⟨d, hd, q⟩ := fin_sat q
    obtain ⟨k, hk, q⟩ := opt_sat (Res.sat_bind.mp q)
    exact ⟨k, rdd_tru r1.sub (b1.fin r1 (Evo.refl r1.sub) hd) hk, q _ H' F' e1 r1 rfl⟩) fun _ h => h⟩
/-- unary minus -/
def eNeg (a : Ev) : Ev := fun ρ => (a ρ).bind fun r => match r.1 with
  | .int i => .ok (.int (-i), r.2)
  | _ => .bad
theorem ve_neg (h : VE X Γ Γ' W a .fz ev) : VE X Γ Γ' W (.UnaryOp .USub a pos) .fz (eNeg ev) :=
  peImp (pe_un un_neg h) fun σ H Q ⟨ρ, F, r, q⟩ => ⟨ρ, F, r, Res.sat_imp (Res.sat_bind.mp q) (fun z _ q v H' F' e1 r1 vo => by
    cases hz : z.1 <;> rw [hz] at q <;> first | exact q.elim | skip
    rename_i k
    rw [hz] at vo
    exact ⟨k, vo, q _ H' F' e1 r1 rfl⟩) fun _ h => h⟩
def eIf (t : Et) (a b : Ev) : Ev := fun ρ => (t ρ).bind fun r => if r.1 = true then a r.2 else b r.2
theorem ve_ifExp (hc : VT X Γ Γ1 W c et) (ha : VE X Γ1 Γ2 W a m eva) (hb : VE X Γ1 Γ2 W b m evb) : VE X Γ Γ2 W (.IfExp c a b pos) m (eIf et eva evb) :=
  peImp (pe_ifExp hc ha hb) fun σ H Q ⟨ρ, F, r, q⟩ => ⟨ρ, F, r, Res.sat_imp (Res.sat_bind.mp q) (fun z _ q H' F' e1 r1 => by
    have go : ∀ {ev : Ev}, (ev z.2).sat (fun r => ∀ v H' F', Evo (Own Γ ρ σ) H F (Own Γ2 r.2 σ) H' F' → Rel X.K X.mg Γ2 r.2 σ H' F' → ValOk X.K X.mg m (Own Γ2 r.2 σ) H H' F' v r.1 → Q v H') (exW W Γ ρ σ H F) → trE X Γ1 Γ2 W m ev σ H' Q := fun q =>
      ⟨z.2, F', r1, Res.sat_imp q (fun w _ q v2 H2 F2 e2 r2 v3 => q v2 H2 F2 (e1.trans e2) r2 (by
        cases m <;> first | exact v3 | skip
        exact ⟨v3.1, fun c p e => ⟨e1.dom p (v3.2 c p e).1, (v3.2 c p e).2⟩⟩)) fun _ h => h.evo e1⟩
    dsimp only
    split
    · rename_i hz
      rw [if_pos hz] at q
      exact go q
    · rename_i hz
      rw [if_neg hz] at q
      exact go q) fun _ h => h⟩
end
end VL

set_option Elab.async false
set_option linter.all false
set_option maxRecDepth 100000
/-! VL5: arguments, built-in calls, displays. -/
namespace VL
open PySem PySem.Spec PyProof.Rows L2

inductive Arg where
  | bor (o : Opd) | val (f : Ev) | io (i : Nat)
def Arg.run : Arg → Env → Res (Option D × Env)
  | .bor o, ρ => o.run ρ
  | .val f, ρ => (f ρ).bind fun r => .ok (some r.1, r.2)
  | .io i, ρ => (gv ρ i).bind fun _ => .ok (none, ρ)
def Arg.fin : Arg → Option D → Env → Res D
  | .bor o, od, ρ => o.fin od ρ
  | .val _, od, _ => opt od
  | .io i, _, ρ => gv ρ i
def Arg.runs : List Arg → Env → Res (List (Option D) × Env)
  | [], ρ => .ok ([], ρ)
  | a :: as, ρ => (a.run ρ).bind fun p => (Arg.runs as p.2).bind fun q => .ok (p.1 :: q.1, q.2)
def Arg.fins : List Arg → List (Option D) → Env → Res (List D)
  | [], _, _ => .ok []
  | a :: as, od :: ods, ρ => (a.fin od ρ).bind fun d => (Arg.fins as ods ρ).bind fun ds => .ok (d :: ds)
  | _ :: _, [], _ => .bad

section
variable (K : PySem.W.Frag) (mg : Str → Option Value)
/-- what an argument's value bears until the call -/
def AOk (a : Arg) (od : Option D) (O : Ft) (σ : St) (H F : Hp) (v : V) : Prop :=
  match a with
  | .bor o => BOk K mg o od O σ H F v
  | .val _ => ∃ d, od = some d ∧ rep K mg F d v
  | .io i => σ[i]? = some (some v)
def AOks : List Arg → List (Option D) → Ft → St → Hp → Hp → List V → Prop
  | [], ods, _, _, _, _, vs => ods = [] ∧ vs = []
  | a :: as, ods, O, σ, H, F, vs => ∃ od r v w, ods = od :: r ∧ vs = v :: w ∧ AOk K mg a od O σ H F v ∧ AOks as r O σ H F w
/-- what it bears at the call -/
def AF (a : Arg) (O : Ft) (σ : St) (H F : Hp) (v : V) (d : D) : Prop :=
  match a with
  | .bor (.ex _) => RdN K mg O H F v d
  | .bor (.slot i) => Rdd K mg H F v d ∧ σ[i]? = some (some v)
  | .val _ => rep K mg F d v
  | .io i => Rdd K mg H F v d ∧ σ[i]? = some (some v)
def AFs : List Arg → Ft → St → Hp → Hp → List V → List D → Prop
  | [], _, _, _, _, vs, ds => vs = [] ∧ ds = []
  | a :: as, O, σ, H, F, vs, ds => ∃ v w d e, vs = v :: w ∧ ds = d :: e ∧ AF K mg a O σ H F v d ∧ AFs as O σ H F w e
end
section
variable (X : Cx) (Γ Γ' : Gm) (W : WE)
def trArg (a : Arg) : TE := fun σ H Q => ∃ ρ F, Rel X.K X.mg Γ ρ σ H F ∧ (a.run ρ).sat
  (fun r => ∀ v H' F', Evo (Own Γ ρ σ) H F (Own Γ' r.2 σ) H' F' → Rel X.K X.mg Γ' r.2 σ H' F' → AOk X.K X.mg a r.1 (Own Γ' r.2 σ) σ H' F' v → Q v H') (exW W Γ ρ σ H F)
abbrev VAr (e : Expr) (a : Arg) : Prop := PE X e (trArg X Γ Γ' W a)
def trA (as : List Arg) : TA := fun σ H Q => ∃ ρ F, Rel X.K X.mg Γ ρ σ H F ∧ (Arg.runs as ρ).sat
  (fun r => ∀ vs H' F', Evo (Own Γ ρ σ) H F (Own Γ' r.2 σ) H' F' → Rel X.K X.mg Γ' r.2 σ H' F' → AOks X.K X.mg as r.1 (Own Γ' r.2 σ) σ H' F' vs → Q vs H') (exW W Γ ρ σ H F)
abbrev VA (es : List Expr) (as : List Arg) : Prop := PA X es (trA X Γ Γ' W as)
end
section
variable {K : PySem.W.Frag} {mg : Str → Option Value} {O O' : Ft} {H F H' F' H2 F2 : Hp} {v : V} {d : D} {Γ Γ' Γ2 : Gm} {ρ ρ' ρ2 : Env} {σ : St} {a : Arg} {od : Option D}
theorem AOk.evo (h : AOk K mg a od O σ H F v) (e : Evo O H F O' H' F') : AOk K mg a od O' σ H' F' v := by
  cases a with
  | bor o =>
    cases o with
    | slot i => exact h
    | ex f => cases od with
      | none => exact h
      | some d => exact RdN.evo h e
  | val f => obtain ⟨d, e1, h⟩ := h; exact ⟨d, e1, rep_mono e.sf h⟩
  | io i => exact h
theorem AOk.fin (r : Rel K mg Γ ρ σ H F) (h : AOk K mg a od O σ H F v) (ho : O = Own Γ ρ σ) (hf : a.fin od ρ = .ok d) : AF K mg a O σ H F v d := by
  cases a with
  | bor o =>
    cases o with
    | slot i =>
      obtain ⟨w, h1, h2⟩ := r.rdd (gv_ok hf)
      have h : σ[i]? = some (some v) := h
      rw [h] at h1; cases h1
      exact ⟨h2, h⟩
    | ex f => cases od with
      | none => exact h.elim
      | some d' =>
        have hf : Res.ok d' = Res.ok d := hf
        cases hf
        exact h
  | val f =>
    obtain ⟨d', rfl, h⟩ := h
    have hf : Res.ok d' = Res.ok d := hf
    cases hf
    exact h
  | io i =>
    obtain ⟨w, h1, h2⟩ := r.rdd (gv_ok hf)
    have h : σ[i]? = some (some v) := h
    rw [h] at h1; cases h1
    exact ⟨h2, h⟩
theorem Arg.fin_exn {x : Exn} (h : a.fin od ρ = .exn x) : False := by
  have g : ∀ i, gv ρ i = .exn x → False := fun i h => by
    rcases gv_cases ρ i with ⟨d, e, _⟩ | e <;> rw [e] at h <;> cases h
  cases a with
  | bor o =>
    cases o with
    | slot i => exact g i h
    | ex f => cases od <;> cases h
  | val f => cases od <;> cases h
  | io i => exact g i h
theorem Arg.fins_exn {x : Exn} : ∀ {as : List Arg} {ods : List (Option D)}, Arg.fins as ods ρ = .exn x → False
  | [], _, h => by cases h
  | a :: as, [], h => by cases h
  | a :: as, od :: ods, h => by
    unfold Arg.fins at h
    cases h1 : a.fin od ρ with
    | exn x => exact Arg.fin_exn h1
    | bad => rw [h1] at h; cases h
    | ok d =>
      rw [h1] at h
      cases h2 : Arg.fins as ods ρ with
      | exn x => exact Arg.fins_exn h2
      | bad => simp only [Res.bind_ok, h2, Res.bind_bad] at h; cases h
      | ok ds => simp only [Res.bind_ok, h2] at h; cases h
theorem AOks.evo : ∀ {as : List Arg} {ods : List (Option D)} {vs : List V}, AOks K mg as ods O σ H F vs → Evo O H F O' H' F' → AOks K mg as ods O' σ H' F' vs
  | [], _, _, h, _ => h
  | a :: as, _, _, ⟨od, r, v, w, e1, e2, h1, h2⟩, e => ⟨od, r, v, w, e1, e2, h1.evo e, h2.evo e⟩
theorem AOks.fin (r : Rel K mg Γ ρ σ H F) : ∀ {as : List Arg} {ods : List (Option D)} {vs : List V} {ds : List D}, AOks K mg as ods (Own Γ ρ σ) σ H F vs → Arg.fins as ods ρ = .ok ds → AFs K mg as (Own Γ ρ σ) σ H F vs ds
  | [], _, _, _, h, hf => by cases hf; exact ⟨h.2, rfl⟩
  | a :: as, _, _, ds, ⟨od, q, v, w, e1, e2, h1, h2⟩, hf => by
    subst e1
    unfold Arg.fins at hf
    cases k1 : a.fin od ρ with
    | exn x => exact (Arg.fin_exn k1).elim
    | bad => rw [k1] at hf; cases hf
    | ok d =>
      rw [k1] at hf
      cases k2 : Arg.fins as q ρ with
      | exn x => exact (Arg.fins_exn k2).elim
      | bad => simp only [Res.bind_ok, k2, Res.bind_bad] at hf; cases hf
      | ok es =>
        simp only [Res.bind_ok, k2] at hf
        cases hf
        exact ⟨v, w, d, es, e2, rfl, h1.fin r rfl k1, h2.fin r k2⟩
end
theorem fins_sat {α : Type} {as : List Arg} {ods : List (Option D)} {ρ : Env} {f : List D → Res α} {P : α → Prop} {E : Exn → Prop} (h : ((Arg.fins as ods ρ).bind f).sat P E) : ∃ ds, Arg.fins as ods ρ = .ok ds ∧ (f ds).sat P E := by
  cases hf : Arg.fins as ods ρ with
  | ok d => rw [hf] at h; exact ⟨d, rfl, h⟩
  | bad => rw [hf] at h; exact h.elim
  | exn x => exact (Arg.fins_exn hf).elim
section
variable {X : Cx} {Γ Γ' Γ1 Γ2 Γ3 : Gm} {W : WE} {e a b c : Expr} {es : List Expr} {pos p2 p : Pos} {m : Md} {ev eva evb : Ev} {et eta etb : Et} {oa ob : Opd} {ar : Arg} {as : List Arg}
theorem paImp {t t' : TA} (h : PA X es t) (i : ∀ σ H Q, t' σ H Q → t σ H Q) : PA X es t' := ⟨fun pos pins s σ H Q I q => h.run pos pins s σ H Q I (i σ H Q q)⟩
theorem va_bor (h : VB X Γ Γ' W e oa) : VAr X Γ Γ' W e (.bor oa) := h
theorem va_val (h : VE X Γ Γ' W e .fz ev) : VAr X Γ Γ' W e (.val ev) :=
  peImp h fun σ H Q ⟨ρ, F, r, q⟩ => ⟨ρ, F, r, Res.sat_imp (Res.sat_bind.mp q) (fun z _ q v H' F' e1 r1 vo => q v H' F' e1 r1 ⟨_, rfl, vo⟩) fun _ h => h⟩
theorem va_io {i : Nat} (h : PE X e (tVar i)) : VAr X Γ Γ W e (.io i) :=
  peImp h fun σ H Q ⟨ρ, F, r, q⟩ => by
    obtain ⟨d, e2, q⟩ := gv_sat (Res.sat_bind.mp q)
    obtain ⟨v, h1, h2⟩ := r.rdd e2
    exact ⟨v, h1, q v H F (Evo.refl r.sub) r h1⟩
theorem va_nil : VA X Γ Γ W [] [] := paImp pa_nil fun σ H Q ⟨ρ, F, r, q⟩ => q [] H F (Evo.refl r.sub) r ⟨rfl, rfl⟩
theorem va_cons (ha : VAr X Γ Γ1 W e ar) (hr : VA X Γ1 Γ2 W es as) (hs : starEach (e :: es) X.env = (false, eval e X.env) :: starEach es X.env := by rfl) : VA X Γ Γ2 W (e :: es) (ar :: as) :=
  paImp (pa_cons ha hr hs) fun σ H Q ⟨ρ, F, r, q⟩ => ⟨ρ, F, r, Res.sat_imp (Res.sat_bind.mp q) (fun z _ q v H1 F1 e1 r1 b1 => ⟨z.2, F1, r1, Res.sat_imp (Res.sat_bind.mp q) (fun w _ q vs H2 F2 e2 r2 b2 =>
    q (v :: vs) H2 F2 (e1.trans e2) r2 ⟨_, _, _, _, rfl, rfl, b1.evo e2, b2⟩) fun _ h => h.evo e1⟩) fun _ h => h⟩

/-! ### built-in calls -/
def Rdds (K : PySem.W.Frag) (mg : Str → Option Value) (H F : Hp) : List V → List D → Prop
  | vs, [] => vs = []
  | vs, d :: ds => ∃ v w, vs = v :: w ∧ Rdd K mg H F v d ∧ Rdds K mg H F w ds
theorem AF.rdd {K : PySem.W.Frag} {mg : Str → Option Value} {O : Ft} {σ : St} {H F : Hp} {v : V} {d : D} (s : Same F H) (h : AF K mg ar O σ H F v d) : Rdd K mg H F v d := by
  cases ar with
  | bor o => cases o with
    | slot i => exact h.1
    | ex f => exact RdN.rdd h
  | val f => exact rep.rdd s h
  | io i => exact h.1
theorem AFs.rdds {K : PySem.W.Frag} {mg : Str → Option Value} {O : Ft} {σ : St} {H F : Hp} (s : Same F H) : ∀ {as : List Arg} {vs : List V} {ds : List D}, AFs K mg as O σ H F vs ds → Rdds K mg H F vs ds
  | [], _, _, ⟨h1, h2⟩ => by subst h1 h2; rfl
  | a :: as, _, _, ⟨v, w, d, e, h1, h2, h3, h4⟩ => by subst h1 h2; exact ⟨v, w, rfl, h3.rdd s, h4.rdds s⟩
def eCall (f : List D → Option D) (as : List Arg) : Ev := fun ρ => (Arg.runs as ρ).bind fun p => (Arg.fins as p.1 p.2).bind fun ds => (opt (f ds)).bind fun d => .ok (d, p.2)
def CallF (K : PySem.W.Frag) (mg : Str → Option Value) (f : List D → Option D) (r : List V → Hp → VK → Prop) (m : Md) : Prop :=
  ∀ H F vs ds d Q, Same F H → Rdds K mg H F vs ds → f ds = some d → (∀ u H' F', Grow H F H' F' → NewOk K mg m H H' F' u d → Q u H') → r vs H Q
theorem call_tr {f : List D → Option D} {r : List V → Hp → VK → Prop} (hf : CallF X.K X.mg f r m) {σ : St} {H : Hp} {Q : VK} (h : trE X Γ Γ' W m (eCall f as) σ H Q) : trA X Γ Γ' W as σ H fun vs H1 => r vs H1 Q := by
  obtain ⟨ρ, F, rl, q⟩ := h
  refine ⟨ρ, F, rl, Res.sat_imp (Res.sat_bind.mp q) (fun z _ q vs H1 F1 e1 r1 b1 => ?_) fun _ h => h⟩
  obtain ⟨ds, hds, q⟩ := fins_sat q
  obtain ⟨d, hd, q⟩ := opt_sat (Res.sat_bind.mp q)
  exact hf H1 F1 vs ds d Q r1.sub ((b1.fin r1 hds).rdds r1.sub) hd fun u H3 F3 g n => q u H3 F3 (e1.trans g.evo) (r1.grow g) (by
    have n' := n.val r1
    cases m <;> first | exact n' | skip
    exact ⟨n'.1, fun c p e => ⟨e1.dom p (n'.2 c p e).1, (n'.2 c p e).2⟩⟩)
theorem ve_callB {id : String} {x : Str} {f : List D → Option D} {r : List V → Hp → VK → Prop} (hc : CallR X (.builtin id) r) (hf : CallF X.K X.mg f r m) (hg : Gl X x) (hm : X.mg x = none) (hv : bootBuiltins x = some (.builtin id)) (ha : VA X Γ Γ' W (e :: es) as) (hn : x ≠ "__name__" := by decide) (hdb : (x == ("__debug__" : Str)) = false := by decide)
    (he : starEach (e :: es) X.env = (false, eval e X.env) :: starEach es X.env := by rfl) (hpl : (backTo pos (starEach es X.env)).any (·.1) = false := by rfl) : VE X Γ Γ' W (.Call (.Name x p) (e :: es) [] pos) m (eCall f as) :=
  peImp (pe_callB hc hg hm hv ha hn hdb he hpl) fun _ _ _ h => call_tr hf h
theorem ve_callTy {T : String} {x : Str} {f : List D → Option D} {r : List V → Hp → VK → Prop} (hc : CallR X (.type T) r) (hf : CallF X.K X.mg f r m) (hg : Gl X x) (hm : X.mg x = none) (hv : bootBuiltins x = some (.type T)) (ha : VA X Γ Γ' W (e :: es) as) (hn : x ≠ "__name__" := by decide) (hdb : (x == ("__debug__" : Str)) = false := by decide)
    (he : starEach (e :: es) X.env = (false, eval e X.env) :: starEach es X.env := by rfl) (hpl : (backTo pos (starEach es X.env)).any (·.1) = false := by rfl) : VE X Γ Γ' W (.Call (.Name x p) (e :: es) [] pos) m (eCall f as) :=
  peImp (pe_callTy hc hg hm hv ha hn hdb he hpl) fun _ _ _ h => call_tr hf h

/-! ### displays: all elements are values -/
def eTup (as : List Arg) : Ev := eCall (fun ds => if ds.length ≤ 16777216 then some (.tup ds) else none) as
def eLst (as : List Arg) : Ev := eCall (fun ds => if ds.length ≤ 16777216 then some (.lst ds) else none) as
def allVal : List Arg → Bool
  | [] => true
  | .val _ :: r => allVal r
  | _ :: _ => false
theorem AFs.reps {K : PySem.W.Frag} {mg : Str → Option Value} {O : Ft} {σ : St} {H F : Hp} : ∀ {as : List Arg} {vs : List V} {ds : List D}, allVal as = true → AFs K mg as O σ H F vs ds → reps K mg F ds vs
  | [], _, _, _, ⟨h1, h2⟩ => by subst h1 h2; exact reps_nil
  | .val f :: as, _, _, ha, ⟨v, w, d, e, h1, h2, h3, h4⟩ => by subst h1 h2; exact reps_cons h3 (AFs.reps (show allVal as = true from ha) h4)
  | .bor _ :: _, _, _, ha, _ => by cases ha
  | .io _ :: _, _, _, ha, _ => by cases ha
theorem ve_tup {x1} (h : VA X Γ Γ' W es as) (hv : allVal as = true) : VE X Γ Γ' W (.Tuple es x1 pos) .fz (eTup as) :=
  peImp (pe_tup h) fun σ H Q ⟨ρ, F, rl, q⟩ => ⟨ρ, F, rl, Res.sat_imp (Res.sat_bind.mp q) (fun z _ q vs H1 F1 e1 r1 b1 => by
    obtain ⟨ds, hds, q⟩ := fins_sat q
    obtain ⟨d, hd, q⟩ := opt_sat (Res.sat_bind.mp q)
    have rr := (b1.fin r1 hds).reps hv
    dsimp only at hd
    split at hd <;> cases hd
    rename_i hl
    refine ⟨by rw [sizeLine_eq, reps_length rr]; exact hl, fun n hn => ?_⟩
    exact q _ _ _ (e1.trans (Grow.newF r1.sub hn).evo) (r1.grow (Grow.newF r1.sub hn)) (rep_tup_new hn r1.sub rr)) fun _ h => h⟩
theorem ve_lst (h : VA X Γ Γ' W es as) (hv : allVal as = true) : VE X Γ Γ' W (.List es pos) .own (eLst as) :=
  peImp (pe_lst h) fun σ H Q ⟨ρ, F, rl, q⟩ => ⟨ρ, F, rl, Res.sat_imp (Res.sat_bind.mp q) (fun z _ q vs H1 F1 e1 r1 b1 => by
    obtain ⟨ds, hds, q⟩ := fins_sat q
    obtain ⟨d, hd, q⟩ := opt_sat (Res.sat_bind.mp q)
    have rr := (b1.fin r1 hds).reps hv
    dsimp only at hd
    split at hd <;> cases hd
    rename_i hl
    refine ⟨by rw [sizeLine_eq, reps_length rr]; exact hl, fun n hn => ?_⟩
    have n' := (NewOk.newL hn r1.sub rr).val r1
    exact q _ _ _ (e1.trans (Grow.newO r1.sub hn).evo) (r1.grow (Grow.newO r1.sub hn)) ⟨n'.1, fun c p e => ⟨e1.dom p (n'.2 c p e).1, (n'.2 c p e).2⟩⟩) fun _ h => h⟩
end

/-! ### the built-ins by data -/
section
variable {X : Cx} {K : PySem.W.Frag} {mg : Str → Option Value}
def fLen : List D → Option D
  | [.lst l] => some (.int l.length)
  | [.tup l] => some (.int l.length)
  | [.str l] => if l.length ≤ 16777216 then some (.int l.length) else none
  | _ => none
theorem c_len : CallF K mg fLen (fun xs H Q => (∃ p ys, xs = [.ref p] ∧ (SqL K H p ys ∨ SqT K H p ys) ∧ Q (.int ys.length) H) ∨ ∃ z, xs = [.str z] ∧ z.length ≤ sizeLine ∧ Q (.int z.length) H) .fz := by
  intro H F vs ds d Q s r hf q
  unfold fLen at hf
  split at hf
  · cases hf
    obtain ⟨v, w, rfl, h1, rfl⟩ := r
    obtain ⟨p, vs, rfl, h2, h3⟩ := h1.lst
    exact .inl ⟨p, vs, rfl, .inl (.of h2), q _ H F (Grow.refl s) (.atom rfl (by simp only [rep, reps_length h3]))⟩
  · cases hf
    obtain ⟨v, w, rfl, h1, rfl⟩ := r
    obtain ⟨p, vs, rfl, h2, h3⟩ := h1.tup
    exact .inl ⟨p, vs, rfl, .inr (Same.sqT s h2), q _ H F (Grow.refl s) (.atom rfl (by simp only [rep, reps_length h3]))⟩
  · split at hf <;> cases hf
    rename_i l hl
    obtain ⟨v, w, rfl, h1, rfl⟩ := r
    rw [h1.str]
    exact .inr ⟨_, rfl, by rw [sizeLine_eq]; simpa [Str.length] using hl, q _ H F (Grow.refl s) (.atom rfl (by simp [rep, Str.length]))⟩
  · cases hf
theorem b_len : CallR X (.builtin "len") (fun xs H Q => (∃ p ys, xs = [.ref p] ∧ (SqL X.K H p ys ∨ SqT X.K H p ys) ∧ Q (.int ys.length) H) ∨ ∃ z, xs = [.str z] ∧ z.length ≤ sizeLine ∧ Q (.int z.length) H) := call_len_seq.or call_len_str
def fAbs : List D → Option D
  | [.int i] => some (.int (if i < 0 then -i else i))
  | _ => none
theorem c_abs : CallF K mg fAbs (fun xs H Q => ∃ i, xs = [.int i] ∧ Q (.int (if i < 0 then -i else i)) H) .fz := by
  intro H F vs ds d Q s r hf q
  unfold fAbs at hf
  split at hf <;> cases hf
  obtain ⟨v, w, rfl, h1, rfl⟩ := r
  rw [h1.int]
  exact ⟨_, rfl, q _ H F (Grow.refl s) (.atom rfl rfl)⟩
def fMax2 : List D → Option D
  | [.int i, .int j] => some (.int (if j > i then j else i))
  | _ => none
def fMin2 : List D → Option D
  | [.int i, .int j] => some (.int (if j < i then j else i))
  | _ => none
theorem c_max2 : CallF K mg fMax2 (fun xs H Q => ∃ i j, xs = [.int i, .int j] ∧ Q (.int (if j > i then j else i)) H) .fz := by
  intro H F vs ds d Q s r hf q
  unfold fMax2 at hf
  split at hf <;> cases hf
  obtain ⟨v, w, rfl, h1, v2, w2, rfl, h2, rfl⟩ := r
  rw [h1.int, h2.int]
  exact ⟨_, _, rfl, q _ H F (Grow.refl s) (.atom rfl rfl)⟩
theorem c_min2 : CallF K mg fMin2 (fun xs H Q => ∃ i j, xs = [.int i, .int j] ∧ Q (.int (if j < i then j else i)) H) .fz := by
  intro H F vs ds d Q s r hf q
  unfold fMin2 at hf
  split at hf <;> cases hf
  obtain ⟨v, w, rfl, h1, v2, w2, rfl, h2, rfl⟩ := r
  rw [h1.int, h2.int]
  exact ⟨_, _, rfl, q _ H F (Grow.refl s) (.atom rfl rfl)⟩
def fInt : List D → Option D
  | [.int i] => some (.int i)
  | [.bl k] => some (.int (if k then 1 else 0))
  | _ => none
theorem c_int : CallF K mg fInt (fun xs H Q => (∃ i, xs = [.int i] ∧ Q (.int i) H) ∨ ∃ k, xs = [.bl k] ∧ Q (.int (if k then 1 else 0)) H) .fz := by
  intro H F vs ds d Q s r hf q
  unfold fInt at hf
  split at hf <;> cases hf
  · obtain ⟨v, w, rfl, h1, rfl⟩ := r
    rw [h1.int]
    exact .inl ⟨_, rfl, q _ H F (Grow.refl s) (.atom rfl rfl)⟩
  · obtain ⟨v, w, rfl, h1, rfl⟩ := r
    rw [h1.bl]
    exact .inr ⟨_, rfl, q _ H F (Grow.refl s) (.atom rfl rfl)⟩
def fList : List D → Option D
  | [.lst l] => some (.lst l)
  | [.tup l] => some (.lst l)
  | [.scr l] => some (.lst (l.map .int))
  | _ => none
theorem c_list : CallF K mg fList (fun xs H Q => ∃ p ys, xs = [.ref p] ∧ (SqL K H p ys ∨ SqT K H p ys) ∧ ∀ l, H l = none → Q (.ref l) (upd H l (.lst ys))) .own := by
  intro H F vs ds d Q s r hf q
  unfold fList at hf
  split at hf <;> cases hf
  · obtain ⟨v, w, rfl, h1, rfl⟩ := r
    obtain ⟨p, vs, rfl, h2, h3⟩ := h1.lst
    exact ⟨p, vs, rfl, .inl (.of h2), fun n hn => q _ _ F (Grow.newO s hn) (.newL hn s h3)⟩
  · obtain ⟨v, w, rfl, h1, rfl⟩ := r
    obtain ⟨p, vs, rfl, h2, h3⟩ := h1.tup
    exact ⟨p, vs, rfl, .inr (Same.sqT s h2), fun n hn => q _ _ F (Grow.newO s hn) (.newL hn s h3)⟩
  · obtain ⟨v, w, rfl, h1, rfl⟩ := r
    obtain ⟨p, rfl, h2⟩ := h1.scr
    exact ⟨p, _, rfl, .inl (L2.Same.seq s h2), fun n hn => q _ _ F (Grow.newO s hn) (.newL hn s ints_reps)⟩
def fTuple : List D → Option D
  | [.lst l] => some (.tup l)
  | [.tup l] => some (.tup l)
  | _ => none
theorem c_tuple : CallF K mg fTuple (fun xs H Q => ∃ p ys, xs = [.ref p] ∧ ((SqL K H p ys ∧ ∀ l, H l = none → Q (.ref l) (upd H l (.tup ys))) ∨ (SqT K H p ys ∧ Q (.ref p) H))) .fz := by
  intro H F vs ds d Q s r hf q
  unfold fTuple at hf
  split at hf <;> cases hf
  · obtain ⟨v, w, rfl, h1, rfl⟩ := r
    obtain ⟨p, vs, rfl, h2, h3⟩ := h1.lst
    exact ⟨p, vs, rfl, .inl ⟨.of h2, fun n hn => q _ _ _ (Grow.newF s hn) (rep_tup_new hn s h3)⟩⟩
  · obtain ⟨v, w, rfl, h1, rfl⟩ := r
    obtain ⟨p, vs, rfl, h2, h3⟩ := h1.tup
    exact ⟨p, vs, rfl, .inr ⟨Same.sqT s h2, q _ H F (Grow.refl s) (by simp only [NewOk, rep]; exact ⟨p, vs, rfl, h2, h3⟩)⟩⟩
def intsOf : List D → Option (List Int)
  | [] => some []
  | .int i :: r => (intsOf r).map (i :: ·)
  | _ :: _ => none
theorem intsOf_ok : ∀ {l : List D} {ns : List Int}, intsOf l = some ns → l = ns.map D.int
  | [], _, h => by cases h; rfl
  | d :: r, ns, h => by
    cases d <;> simp only [intsOf] at h <;> first | (cases h; done) | skip
    cases hr : intsOf r with
    | none => rw [hr] at h; cases h
    | some k => rw [hr] at h; cases h; rw [intsOf_ok hr]; rfl
@[simp] theorem intsOf_map (ns : List Int) : intsOf (ns.map D.int) = some ns := by
  induction ns with
  | nil => rfl
  | cons n ns ih => simp only [List.map_cons, intsOf, ih, Option.map_some]
def blsOf : List D → Option (List Bool)
  | [] => some []
  | .bl i :: r => (blsOf r).map (i :: ·)
  | _ :: _ => none
theorem blsOf_ok : ∀ {l : List D} {ns : List Bool}, blsOf l = some ns → l = ns.map D.bl
  | [], _, h => by cases h; rfl
  | d :: r, ns, h => by
    cases d <;> simp only [blsOf] at h <;> first | (cases h; done) | skip
    cases hr : blsOf r with
    | none => rw [hr] at h; cases h
    | some k => rw [hr] at h; cases h; rw [blsOf_ok hr]; rfl
@[simp] theorem blsOf_map (ns : List Bool) : blsOf (ns.map D.bl) = some ns := by
  induction ns with
  | nil => rfl
  | cons n ns ih => simp only [List.map_cons, blsOf, ih, Option.map_some]
theorem reps_bls {F : Hp} : ∀ {ns : List Bool} {vs : List V}, reps K mg F (ns.map D.bl) vs → vs = ns.map V.bl
  | [], _, h => by simpa only [reps, List.map_nil] using h
  | n :: ns, _, h => by
    simp only [List.map_cons, reps] at h
    obtain ⟨v, r, rfl, h1, h2⟩ := h
    simp only [rep] at h1
    subst h1
    rw [reps_bls h2, List.map_cons]
def fSum : List D → Option D
  | [.lst l] => (intsOf l).map fun ns => .int ns.sum
  | _ => none
theorem c_sum : CallF K mg fSum (rSum K) .fz := by
  intro H F vs ds d Q s r hf q
  unfold fSum at hf
  split at hf
  · rename_i l
    cases hn : intsOf l with
    | none => rw [hn] at hf; cases hf
    | some ns =>
      rw [hn] at hf; cases hf
      have e := intsOf_ok hn
      subst e
      obtain ⟨v, w, rfl, h1, rfl⟩ := r
      obtain ⟨p, vs, rfl, h2, h3⟩ := h1.lst
      rw [reps_ints h3] at h2
      exact ⟨p, ns, rfl, .of h2, q _ H F (Grow.refl s) (.atom rfl rfl)⟩
  · cases hf
def maxL : Int → List Int → Int
  | x, [] => x
  | x, y :: r => maxL (if y > x then y else x) r
def minL : Int → List Int → Int
  | x, [] => x
  | x, y :: r => minL (if y < x then y else x) r
theorem maxL_spec : ∀ (r : List Int) (x : Int), (maxL x r = x ∨ maxL x r ∈ r) ∧ x ≤ maxL x r ∧ ∀ y ∈ r, y ≤ maxL x r
  | [], x => ⟨.inl rfl, Int.le_refl _, fun _ h => by cases h⟩
  | z :: r, x => by
    obtain ⟨h1, h2, h3⟩ := maxL_spec r (if z > x then z else x)
    simp only [maxL]
    by_cases c : z > x
    · rw [if_pos c] at h1 h2 h3 ⊢
      refine ⟨?_, by omega, fun y hy => ?_⟩
      · rcases h1 with h1 | h1
        · right; rw [h1]; exact List.mem_cons_self
        · right; exact List.mem_cons_of_mem _ h1
      · rcases List.mem_cons.mp hy with rfl | hy
        · exact h2
        · exact h3 y hy
    · rw [if_neg c] at h1 h2 h3 ⊢
      refine ⟨?_, h2, fun y hy => ?_⟩
      · rcases h1 with h1 | h1
        · exact .inl h1
        · exact .inr (List.mem_cons_of_mem _ h1)
      · rcases List.mem_cons.mp hy with rfl | hy
        · omega
        · exact h3 y hy
theorem minL_spec : ∀ (r : List Int) (x : Int), (minL x r = x ∨ minL x r ∈ r) ∧ minL x r ≤ x ∧ ∀ y ∈ r, minL x r ≤ y
  | [], x => ⟨.inl rfl, Int.le_refl _, fun _ h => by cases h⟩
  | z :: r, x => by
    obtain ⟨h1, h2, h3⟩ := minL_spec r (if z < x then z else x)
    simp only [minL]
    by_cases c : z < x
    · rw [if_pos c] at h1 h2 h3 ⊢
      refine ⟨?_, by omega, fun y hy => ?_⟩
      · rcases h1 with h1 | h1
        · right; rw [h1]; exact List.mem_cons_self
        · right; exact List.mem_cons_of_mem _ h1
      · rcases List.mem_cons.mp hy with rfl | hy
        · exact h2
        · exact h3 y hy
    · rw [if_neg c] at h1 h2 h3 ⊢
      refine ⟨?_, h2, fun y hy => ?_⟩
      · rcases h1 with h1 | h1
        · exact .inl h1
        · exact .inr (List.mem_cons_of_mem _ h1)
      · rcases List.mem_cons.mp hy with rfl | hy
        · omega
        · exact h3 y hy
def fMaxL : List D → Option D
  | [.lst l] => match intsOf l with
    | some (x :: r) => some (.int (maxL x r))
    | _ => none
  | _ => none
def fMinL : List D → Option D
  | [.lst l] => match intsOf l with
    | some (x :: r) => some (.int (minL x r))
    | _ => none
  | _ => none
theorem c_maxL : CallF K mg fMaxL (rMax K) .fz := by
  intro H F vs ds d Q s r hf q
  unfold fMaxL at hf
  split at hf
  · split at hf <;> cases hf
    rename_i x t hn
    have e := intsOf_ok hn
    subst e
    obtain ⟨v, w, rfl, h1, rfl⟩ := r
    obtain ⟨p, vs, rfl, h2, h3⟩ := h1.lst
    rw [reps_ints h3] at h2
    refine ⟨p, _, rfl, .of h2, by simp, fun m hm hy => ?_⟩
    have e : m = maxL x t := by
      obtain ⟨k1, k2, k3⟩ := maxL_spec t x
      have a1 : maxL x t ≤ m := by
        rcases k1 with k | k
        · rw [k]; exact hy x List.mem_cons_self
        · exact hy _ (List.mem_cons_of_mem _ k)
      have a2 : m ≤ maxL x t := by
        rcases List.mem_cons.mp hm with rfl | hm
        · exact k2
        · exact k3 m hm
      omega
    subst e
    exact q _ H F (Grow.refl s) (.atom rfl rfl)
  · cases hf
theorem c_minL : CallF K mg fMinL (rMin K) .fz := by
  intro H F vs ds d Q s r hf q
  unfold fMinL at hf
  split at hf
  · split at hf <;> cases hf
    rename_i x t hn
    have e := intsOf_ok hn
    subst e
    obtain ⟨v, w, rfl, h1, rfl⟩ := r
    obtain ⟨p, vs, rfl, h2, h3⟩ := h1.lst
    rw [reps_ints h3] at h2
    refine ⟨p, _, rfl, .of h2, by simp, fun m hm hy => ?_⟩
    have e : m = minL x t := by
      obtain ⟨k1, k2, k3⟩ := minL_spec t x
      have a1 : m ≤ minL x t := by
        rcases k1 with k | k
        · rw [k]; exact hy x List.mem_cons_self
        · exact hy _ (List.mem_cons_of_mem _ k)
      have a2 : minL x t ≤ m := by
        rcases List.mem_cons.mp hm with rfl | hm
        · exact k2
        · exact k3 m hm
      omega
    subst e
    exact q _ H F (Grow.refl s) (.atom rfl rfl)
  · cases hf
def fAny : List D → Option D
  | [.lst l] => (blsOf l).map fun ns => .bl (ns.any id)
  | _ => none
def fAll : List D → Option D
  | [.lst l] => (blsOf l).map fun ns => .bl (ns.all id)
  | _ => none
theorem c_any : CallF K mg fAny (rAny K) .fz := by
  intro H F vs ds d Q s r hf q
  unfold fAny at hf
  split at hf
  · rename_i l
    cases hn : blsOf l with
    | none => rw [hn] at hf; cases hf
    | some ns =>
      rw [hn] at hf; cases hf
      have e := blsOf_ok hn
      subst e
      obtain ⟨v, w, rfl, h1, rfl⟩ := r
      obtain ⟨p, vs, rfl, h2, h3⟩ := h1.lst
      rw [reps_bls h3] at h2
      exact ⟨p, ns, rfl, .of h2, q _ H F (Grow.refl s) (.atom rfl rfl)⟩
  · cases hf
theorem c_all : CallF K mg fAll (rAll K) .fz := by
  intro H F vs ds d Q s r hf q
  unfold fAll at hf
  split at hf
  · rename_i l
    cases hn : blsOf l with
    | none => rw [hn] at hf; cases hf
    | some ns =>
      rw [hn] at hf; cases hf
      have e := blsOf_ok hn
      subst e
      obtain ⟨v, w, rfl, h1, rfl⟩ := r
      obtain ⟨p, vs, rfl, h2, h3⟩ := h1.lst
      rw [reps_bls h3] at h2
      exact ⟨p, ns, rfl, .of h2, q _ H F (Grow.refl s) (.atom rfl rfl)⟩
  · cases hf
end
end VL

set_option Elab.async false
set_option linter.all false
set_option maxRecDepth 100000
/-! VL6: statements. -/
namespace VL
open PySem PySem.Spec PyProof.Rows L2

/-- the slots that stay -/
def Keep (As : List Nat) (σ σ' : St) : Prop := σ'.length = σ.length ∧ ∀ i, i ∉ As → σ'[i]? = σ[i]?
theorem Keep.refl {As : List Nat} {σ : St} : Keep As σ σ := ⟨rfl, fun _ _ => rfl⟩
theorem Keep.trans {As : List Nat} {σ σ1 σ2 : St} (a : Keep As σ σ1) (b : Keep As σ1 σ2) : Keep As σ σ2 := ⟨b.1.trans a.1, fun i h => (b.2 i h).trans (a.2 i h)⟩
theorem Keep.set {As : List Nat} {σ : St} {i : Nat} {v : Option V} (h : i ∈ As) : Keep As σ (σ.set i v) := ⟨List.length_set, fun j hj => by
  rw [List.getElem?_set_ne (by intro e; subst e; exact hj h)]⟩
theorem Keep.sub {As Bs : List Nat} {σ σ' : St} (h : ∀ i ∈ As, i ∈ Bs) (k : Keep As σ σ') : Keep Bs σ σ' := ⟨k.1, fun i n => k.2 i fun z => n (h i z)⟩

/-- what a body hands on: the loop's modes, the slots that may be stored, the slots handed back, the answer's mode -/
structure SC where
  ΓL : Gm
  As : List Nat
  ios : List (Nat × Addr)
  rm : Md
/-- the answer: of the frozen part, or one's own: made since, or owned before, and no slot's that is handed back -/
def RetV (K : PySem.W.Frag) (mg : Str → Option Value) (rm : Md) (O : Ft) (ios : List (Nat × Addr)) (H H' F' : Hp) (v : V) (d : D) : Prop :=
  match rm with
  | .own => Cell K mg H' F' v d ∧ (cellD d = true → ∀ p, v = .ref p → H p = none ∨ (O.o p ∧ ∀ i q, (i, q) ∈ ios → p ≠ q))
  | _ => rep K mg F' d v
def exWS (W : WE) (Γ : Gm) (As : List Nat) (ρ : Env) (σ : St) (H F : Hp) : Exn → Prop := fun x => ∀ σ' H' F' O', Evo (Own Γ ρ σ) H F O' H' F' → Keep As σ σ' → W x σ' H' F'
theorem exWS.evo {W : WE} {As : List Nat} {Γ Γ' : Gm} {ρ ρ' : Env} {σ σ' : St} {H F H' F' : Hp} {x : Exn} (h : exWS W Γ As ρ σ H F x) (e : Evo (Own Γ ρ σ) H F (Own Γ' ρ' σ') H' F') (k : Keep As σ σ') : exWS W Γ' As ρ' σ' H' F' x :=
  fun σ2 H2 F2 O2 e2 k2 => h σ2 H2 F2 O2 (e.trans e2) (k.trans k2)
theorem exWS.ex {W : WE} {As : List Nat} {Γ : Gm} {ρ : Env} {σ : St} {H F : Hp} {x : Exn} (h : exWS W Γ As ρ σ H F x) : exW W Γ ρ σ H F x := fun H' F' O' e => h σ H' F' O' e Keep.refl
section
variable (X : Cx) (Γ Γ' : Gm) (S : SC) (W : WE)
def okS (D : Ends) (ρ : Env) (σ : St) (H F : Hp) : Fl → Prop
  | .next ρ' => ∀ σ' H' F', Evo (Own Γ ρ σ) H F (Own Γ' ρ' σ') H' F' → Keep S.As σ σ' → Rel X.K X.mg Γ' ρ' σ' H' F' → D.nx σ' H'
  | .brk ρ' => ∀ σ' H' F', Evo (Own Γ ρ σ) H F (Own S.ΓL ρ' σ') H' F' → Keep S.As σ σ' → Rel X.K X.mg S.ΓL ρ' σ' H' F' → D.bk σ' H'
  | .cont ρ' => ∀ σ' H' F', Evo (Own Γ ρ σ) H F (Own S.ΓL ρ' σ') H' F' → Keep S.As σ σ' → Rel X.K X.mg S.ΓL ρ' σ' H' F' → D.ct σ' H'
  | .ret d ρ' => ∀ v σ' H' F' Γr, Evo (Own Γ ρ σ) H F (Own Γr ρ' σ') H' F' → Rel X.K X.mg Γr ρ' σ' H' F' → (∀ i q, (i, q) ∈ S.ios → Γr[i]? = some (.io q)) → RetV X.K X.mg S.rm (Own Γ ρ σ) S.ios H H' F' v d → D.rt v H'
def trS (ev : Es) : TS := fun D σ H => ∃ ρ F, Rel X.K X.mg Γ ρ σ H F ∧ (ev ρ).sat (okS X Γ Γ' S D ρ σ H F) (exWS W Γ S.As ρ σ H F)
abbrev VS (st : Stmt) (ev : Es) : Prop := PS X st (trS X Γ Γ' S W ev)
abbrev VSs (st : List Stmt) (ev : Es) : Prop := PSs X st (trS X Γ Γ' S W ev)
end
theorem RetV.evo {K : PySem.W.Frag} {mg : Str → Option Value} {rm : Md} {O O1 : Ft} {ios : List (Nat × Addr)} {H H1 F F1 H' F' : Hp} {v : V} {d : D} (h : RetV K mg rm O1 ios H1 H' F' v d) (e : Evo O H F O1 H1 F1) : RetV K mg rm O ios H H' F' v d := by
  cases rm <;> first | exact h | skip
  refine ⟨h.1, fun c p z => ?_⟩
  rcases h.2 c p z with k | ⟨k, n⟩
  · exact .inl (e.dom p k)
  · rcases e.ow p k with k | k
    · exact .inr ⟨k, n⟩
    · exact .inl k
section
variable {X : Cx} {Γ Γ' Γ1 Γ2 Γ3 : Gm} {S : SC} {W : WE} {st : Stmt} {sts rest : List Stmt} {e a b c : Expr} {pos pos' : Pos} {m : Md} {ev : Ev} {et : Et} {es e1 e2 : Es}
theorem psImp {t t' : TS} (h : PS X st t) (i : ∀ D σ H, t' D σ H → t D σ H) : PS X st t' := ⟨fun pins s σ H D I q => h.run pins s σ H D I (i D σ H q)⟩
theorem pssImp {t t' : TS} (h : PSs X sts t) (i : ∀ D σ H, t' D σ H → t D σ H) : PSs X sts t' := ⟨fun pins s σ H D I q => h.run pins s σ H D I (i D σ H q)⟩
/-- a later state's ends from an earlier state's -/
theorem okS.evo {D : Ends} {ρ ρ1 : Env} {σ σ1 : St} {H F H1 F1 : Hp} {fl : Fl} (h : okS X Γ Γ' S D ρ σ H F fl) (ee : Evo (Own Γ ρ σ) H F (Own Γ1 ρ1 σ1) H1 F1) (k : Keep S.As σ σ1) : okS X Γ1 Γ' S D ρ1 σ1 H1 F1 fl := by
  cases fl with
  | next ρ' => exact fun σ' H' F' e1 k1 r1 => h σ' H' F' (ee.trans e1) (k.trans k1) r1
  | brk ρ' => exact fun σ' H' F' e1 k1 r1 => h σ' H' F' (ee.trans e1) (k.trans k1) r1
  | cont ρ' => exact fun σ' H' F' e1 k1 r1 => h σ' H' F' (ee.trans e1) (k.trans k1) r1
  | ret d ρ' => exact fun v σ' H' F' Γr e1 r1 hi rv => h v σ' H' F' Γr (ee.trans e1) r1 hi (rv.evo ee)

def sNil : Es := fun ρ => .ok (.next ρ)
def sSeq (a b : Es) : Es := fun ρ => (a ρ).bind fun fl => match fl with
  | .next ρ' => b ρ'
  | x => .ok x
theorem vss_nil : VSs X Γ Γ S W [] sNil := pssImp pss_nil fun D σ H ⟨ρ, F, r, q⟩ => q σ H F (Evo.refl r.sub) Keep.refl r
theorem vss_cons (h1 : VS X Γ Γ1 S W st e1) (h2 : VSs X Γ1 Γ2 S W rest e2) : VSs X Γ Γ2 S W (st :: rest) (sSeq e1 e2) :=
  pssImp (pss_cons h1 h2) fun D σ H ⟨ρ, F, r, q⟩ => ⟨ρ, F, r, Res.sat_imp (Res.sat_bind.mp q) (fun fl _ q => by
    cases fl with
    | next ρ' => exact fun σ' H' F' ee k r1 => ⟨ρ', F', r1, Res.sat_imp q (fun fl2 _ q => q.evo ee k) fun _ h => h.evo ee k⟩
    | brk ρ' => exact q
    | cont ρ' => exact q
    | ret d ρ' => exact q) fun _ h => h⟩
theorem vss_one (h1 : VS X Γ Γ1 S W st e1) : VSs X Γ Γ1 S W [st] e1 := pss_one h1
def sPass : Es := fun ρ => .ok (.next ρ)
def sBrk : Es := fun ρ => .ok (.brk ρ)
def sCont : Es := fun ρ => .ok (.cont ρ)
theorem vs_pass : VS X Γ Γ S W (.Pass pos) sPass := psImp ps_pass fun D σ H ⟨ρ, F, r, q⟩ => q σ H F (Evo.refl r.sub) Keep.refl r
theorem vs_break (h : S.ΓL = Γ) : VS X Γ Γ' S W (.Break pos) sBrk := psImp ps_break fun D σ H ⟨ρ, F, r, q⟩ => q σ H F (by rw [h]; exact Evo.refl r.sub) Keep.refl (by rw [h]; exact r)
theorem vs_cont (h : S.ΓL = Γ) : VS X Γ Γ' S W (.Continue pos) sCont := psImp ps_continue fun D σ H ⟨ρ, F, r, q⟩ => q σ H F (by rw [h]; exact Evo.refl r.sub) Keep.refl (by rw [h]; exact r)
def sExpr (f : Ev) : Es := fun ρ => (f ρ).bind fun r => .ok (.next r.2)
theorem vs_expr (h : VE X Γ Γ1 W e m ev) (hs : swapsWith e none pos.line X.env = pure false := by rfl) : VS X Γ Γ1 S W (.Expr e pos) (sExpr ev) :=
  psImp (ps_expr h hs) fun D σ H ⟨ρ, F, r, q⟩ => ⟨ρ, F, r, Res.sat_imp (Res.sat_bind.mp q) (fun z _ q v H' F' ee r1 vo => q σ H' F' ee Keep.refl r1) fun _ h => h.ex⟩
def sRet (f : Ev) : Es := fun ρ => (f ρ).bind fun r => .ok (.ret r.1 r.2)
def sRetN : Es := fun ρ => .ok (.ret .non ρ)
theorem ioOwn {K : PySem.W.Frag} {mg : Str → Option Value} {ρ : Env} {σ : St} {H F : Hp} (r : Rel K mg Γ ρ σ H F) {i : Nat} {q : Addr} (h : Γ[i]? = some (.io q)) (hs : ∃ d, ρ[i]? = some (some d)) : (Own Γ ρ σ).o q := by
  obtain ⟨d, hd⟩ := hs
  obtain ⟨v, h1, h2, h3, _⟩ := r.slot i _ d h hd
  exact ⟨i, _, d, h, rfl, hd, h3, by rw [h1, h2]⟩
def setAll (ios : List (Nat × Addr)) (ρ : Env) : Bool := ios.all fun p => match ρ[p.1]? with
  | some (some _) => true
  | _ => false
theorem vs_ret (h : VE X Γ Γ1 W e m ev) (hm : m = S.rm) (hi : ∀ i q, (i, q) ∈ S.ios → Γ1[i]? = some (.io q)) : VS X Γ Γ' S W (.Return (some e) pos) (sRet ev) :=
  psImp (ps_ret h) fun D σ H ⟨ρ, F, r, q⟩ => ⟨ρ, F, r, Res.sat_imp (Res.sat_bind.mp q) (fun z _ q v H' F' ee r1 vo => q v σ H' F' Γ1 ee r1 hi (by
    rw [← hm]
    cases m <;> first | exact vo | skip
    exact ⟨vo.1, fun c p z => .inl (vo.2 c p z).1⟩)) fun _ h => h.ex⟩
theorem vs_retN (hi : ∀ i q, (i, q) ∈ S.ios → Γ[i]? = some (.io q)) (hr : S.rm = .fz) : VS X Γ Γ' S W (.Return none pos) sRetN :=
  psImp ps_retN fun D σ H ⟨ρ, F, r, q⟩ => q .non σ H F Γ (Evo.refl r.sub) r hi (by rw [hr]; rfl)
/-- return x, x a slot of one's own: it is handed out (where the slots to be handed back are set) -/
def eOut (js : List Nat) (i : Nat) : Ev := fun ρ => if (js.all fun j => match ρ[j]? with | some (some _) => true | _ => false) = true then eVar i ρ else .bad
theorem vs_retOwn {i : Nat} {js : List Nat} (h : PE X e (tVar i)) (hm : Γ[i]? = some .own) (hr : S.rm = .own) (hi : ∀ j q, (j, q) ∈ S.ios → Γ[j]? = some (.io q)) (hj : ∀ j q, (j, q) ∈ S.ios → j ∈ js) : VS X Γ Γ' S W (.Return (some e) pos) (sRet (eOut js i)) :=
  psImp (ps_ret h) fun D σ H ⟨ρ, F, r, q⟩ => by
    have q := Res.sat_bind.mp q
    unfold eOut at q
    split at q
    · rename_i hset
      obtain ⟨d, e2, q⟩ := gv_sat (Res.sat_bind.mp q)
      obtain ⟨v, h1, h2⟩ := r.slot i _ d hm e2
      refine ⟨v, h1, q v σ H F Γ (Evo.refl r.sub) r hi ?_⟩
      rw [hr]
      refine ⟨h2, fun c p z => .inr ⟨⟨i, _, d, hm, rfl, e2, c, by rw [h1, z]⟩, fun j q hq e => ?_⟩⟩
      have k := List.all_eq_true.mp hset j (hj j q hq)
      have sj : ∃ d', ρ[j]? = some (some d') := by
        cases hh : ρ[j]? with
        | none => rw [hh] at k; cases k
        | some o => cases o with
          | none => rw [hh] at k; cases k
          | some d' => exact ⟨d', rfl⟩
      obtain ⟨d', hd'⟩ := sj
      obtain ⟨u, k1, k2, k3, _⟩ := r.slot j _ d' (hi j q hq) hd'
      have := r.inj i j p ⟨_, d, hm, rfl, e2, c, by rw [h1, z]⟩ ⟨_, d', hi j q hq, rfl, hd', k3, by rw [k1, k2, e]⟩
      subst this
      have hh := hi i q hq
      rw [hm] at hh
      cases hh
    · exact q.elim
def sIf (t : Et) (a b : Es) : Es := fun ρ => (t ρ).bind fun r => if r.1 = true then a r.2 else b r.2
theorem vs_if {A B : List Stmt} (hc : VT X Γ Γ1 W c et) (ha : VSs X Γ1 Γ2 S W A e1) (hb : VSs X Γ1 Γ2 S W B e2) : VS X Γ Γ2 S W (.If c A B pos) (sIf et e1 e2) :=
  psImp (ps_if hc ha hb) fun D σ H ⟨ρ, F, r, q⟩ => ⟨ρ, F, r, Res.sat_imp (Res.sat_bind.mp q) (fun z _ q H' F' ee r1 => by
    have go : ∀ {ev : Es}, (ev z.2).sat (okS X Γ Γ2 S D ρ σ H F) (exWS W Γ S.As ρ σ H F) → trS X Γ1 Γ2 S W ev D σ H' := fun q =>
      ⟨z.2, F', r1, Res.sat_imp q (fun fl _ q => q.evo ee Keep.refl) fun _ h => h.evo ee Keep.refl⟩
    dsimp only
    split
    · rename_i hz
      rw [if_pos hz] at q
      exact go q
    · rename_i hz
      rw [if_neg hz] at q
      exact go q) fun _ h => h.ex⟩

/-! ### stores -/
theorem getset {α : Type} {l : List α} {i : Nat} {x : α} (h : i < l.length) : (l.set i x)[i]? = some x := List.getElem?_set_self h
/-- a slot is stored -/
theorem Rel.setM {K : PySem.W.Frag} {mg : Str → Option Value} {ρ : Env} {σ : St} {H F H0 F0 : Hp} {O0 : Ft} {i : Nat} {v : V} {d : D} (r : Rel K mg Γ ρ σ H F) (hl : i < Γ.length) (ev : Evo O0 H0 F0 (Own Γ ρ σ) H F)
    (hb : ∀ j p, O0.b j p → ∃ o, H0 p = some o) (hv : ValOk K mg m (Own Γ ρ σ) H0 H F v d) (hm : m = .fz ∨ m = .own) :
    Rel K mg (Γ.set i m) (ρ.set i (some d)) (σ.set i (some v)) H F ∧ Evo O0 H0 F0 (Own (Γ.set i m) (ρ.set i (some d)) (σ.set i (some v))) H F := by
  have lr := r.lr
  have lg := r.lg
  have li : i < ρ.length := by omega
  have ls : i < σ.length := by omega
  -- own places afterwards
  have own1 : ∀ j p, OwnAt (Γ.set i m) (ρ.set i (some d)) (σ.set i (some v)) j p → (j ≠ i ∧ OwnAt Γ ρ σ j p) ∨ (j = i ∧ m = .own ∧ cellD d = true ∧ v = .ref p) := by
    rintro j p ⟨m', d', g1, g2, g3, g4, g5⟩
    by_cases e : i = j
    · subst e
      rw [getset hl] at g1; rw [getset li] at g3; rw [getset ls] at g5
      cases g1; cases g3; cases g5
      refine .inr ⟨rfl, ?_, g4, rfl⟩
      rcases hm with rfl | rfl
      · cases g2
      · rfl
    · rw [List.getElem?_set_ne e] at g1 g3 g5
      exact .inl ⟨fun z => e z.symm, m', d', g1, g2, g3, g4, g5⟩
  have brw1 : ∀ j p, BrwAt (Γ.set i m) (ρ.set i (some d)) (σ.set i (some v)) j p → j ≠ i ∧ BrwAt Γ ρ σ j p := by
    rintro j p ⟨d', g1, g3, g4, g5⟩
    by_cases e : i = j
    · subst e
      rw [getset hl] at g1; cases g1
      rcases hm with h | h <;> cases h
    · rw [List.getElem?_set_ne e] at g1 g3 g5
      exact ⟨fun z => e z.symm, d', g1, g3, g4, g5⟩
  have fresh : m = .own → cellD d = true → ∀ p, v = .ref p → H0 p = none ∧ ¬ (Own Γ ρ σ).o p := fun e c p z => by
    subst e; exact hv.2 c p z
  refine ⟨⟨by simp only [List.length_set]; exact lr, by simp only [List.length_set]; exact lg, fun j m' d' g1 g2 => ?_, fun a b p ga gb => ?_, r.sub⟩, ev.sf, ev.sh, ev.kp, ev.dom, fun p ⟨j, hj⟩ => ?_, fun j p hj => ev.ob j p (brw1 j p hj).2⟩
  · by_cases e : i = j
    · subst e
      rw [getset hl] at g1; rw [getset li] at g2
      cases g1; cases g2
      refine ⟨v, getset ls, ?_⟩
      rcases hm with rfl | rfl
      · exact hv
      · exact hv.1
    · rw [List.getElem?_set_ne e] at g1 g2
      obtain ⟨w, w1, w2⟩ := r.slot j m' d' g1 g2
      refine ⟨w, by rw [List.getElem?_set_ne e]; exact w1, ?_⟩
      cases m' with
      | xc a c x => exact w2
      | fz => exact w2
      | own => exact w2
      | io q => exact w2
      | brw =>
        have w2 : RdN K mg (Own Γ ρ σ) H F w d' := w2
        show RdN K mg _ H F w d'
        unfold RdN at w2 ⊢
        split
        · rename_i hc
          rw [if_pos hc] at w2
          obtain ⟨q, o, e1, e2, e3, e4⟩ := w2
          subst e1
          refine ⟨q, o, rfl, e2, e3, ?_⟩
          rcases e4 with e4 | ⟨e4, e5⟩
          · exact .inl e4
          · refine .inr ⟨e4, fun ⟨k, hk⟩ => ?_⟩
            rcases own1 k q hk with ⟨_, z⟩ | ⟨_, z1, z2, z3⟩
            · exact e5 ⟨k, z⟩
            · obtain ⟨o', ho⟩ := hb j q (ev.ob j q ⟨d', g1, g2, hc, w1⟩)
              rw [(fresh z1 z2 q z3).1] at ho; cases ho
        · rename_i hc
          rw [if_neg hc] at w2
          exact w2
  · rcases own1 a p ga with ⟨_, z⟩ | ⟨za, z1, z2, z3⟩
    · rcases own1 b p gb with ⟨_, w⟩ | ⟨_, w1, w2, w3⟩
      · exact r.inj a b p z w
      · exact absurd ⟨a, z⟩ (fresh w1 w2 p w3).2
    · rcases own1 b p gb with ⟨_, w⟩ | ⟨zb, _⟩
      · exact absurd ⟨b, w⟩ (fresh z1 z2 p z3).2
      · rw [za, zb]
  · rcases own1 j p hj with ⟨_, z⟩ | ⟨_, z1, z2, z3⟩
    · exact ev.ow p ⟨j, z⟩
    · exact .inr (fresh z1 z2 p z3).1
theorem Rel.brwThere {K : PySem.W.Frag} {mg : Str → Option Value} {ρ : Env} {σ : St} {H F : Hp} (r : Rel K mg Γ ρ σ H F) : ∀ j p, (Own Γ ρ σ).b j p → ∃ o, H p = some o := by
  rintro j p ⟨d, h1, h2, h3, h4⟩
  obtain ⟨v, k1, k2⟩ := r.slot j _ d h1 h2
  have k2 : RdN K mg (Own Γ ρ σ) H F v d := k2
  rw [h4] at k1; cases k1
  unfold RdN at k2
  rw [if_pos h3] at k2
  obtain ⟨q, o, e, h, _⟩ := k2
  cases e
  exact ⟨o, h⟩
def sSet (i : Nat) (f : Ev) : Es := fun ρ => (f ρ).bind fun r => .ok (.next (r.2.set i (some r.1)))
theorem vs_set {i : Nat} {x : Str} (hN : X.N.Nodup) (hi : X.N[i]? = some x) (hx : Loc X.env.scope x) (h : VE X Γ Γ1 W e m ev) (hm : m = .fz ∨ m = .own) (hl : i < Γ1.length) (ha : i ∈ S.As) (hs : swapsWith e (some (.Name x pos')) pos.line X.env = pure false := by rfl)
    (hf : X.fn x = true ∨ X.env.scope.names.lookup x = some .local := by first | exact .inl rfl | exact .inr rfl | assumption) : VS X Γ (Γ1.set i m) S W (.Assign [.Name x pos'] e pos) (sSet i ev) :=
  psImp (ps_set hN hi hx h hs hf) fun D σ H ⟨ρ, F, r, q⟩ => ⟨ρ, F, r, Res.sat_imp (Res.sat_bind.mp q) (fun z _ q v H' F' ee r1 vo => by
    obtain ⟨r2, e2⟩ := r1.setM hl ee r.brwThere vo hm
    exact q _ H' F' e2 (Keep.set ha) r2) fun _ h => h.ex⟩
end
end VL

set_option Elab.async false
set_option linter.all false
set_option maxRecDepth 100000
/-! VL7: changes of one's own lists, targets, loops. -/
namespace VL
open PySem PySem.Spec PyProof.Rows L2

section
variable {K : PySem.W.Frag} {mg : Str → Option Value} {Γ : Gm} {ρ : Env} {σ : St} {H F : Hp} {i : Nat} {m : Md} {d d' : D} {p : Addr} {o o' : HO}
/-- the object of a slot of one's own -/
theorem Rel.ownAt (r : Rel K mg Γ ρ σ H F) (hm : Γ[i]? = some m) (hu : m.mut = true) (hd : ρ[i]? = some (some d)) (hc : cellD d = true) :
    ∃ p o, σ[i]? = some (some (.ref p)) ∧ H p = some o ∧ cont K mg F d o ∧ F p = none := by
  obtain ⟨v, h1, h2⟩ := r.slot i m d hm hd
  have c : Cell K mg H F v d := by
    cases m with
    | own => exact h2
    | io q => exact h2.2.2
    | fz => cases hu
    | brw => cases hu
    | xc a c x => cases hu
  unfold Cell at c
  rw [if_pos hc] at c
  obtain ⟨p, o, e, k1, k2, k3⟩ := c
  subst e
  exact ⟨p, o, h1, k1, k2, k3⟩
theorem ownAt_set (hd : ρ[i]? = some (some d)) (hc : cellD d = true) (hc' : cellD d' = true) {j : Nat} {q : Addr} (h : OwnAt Γ (ρ.set i (some d')) σ j q) : OwnAt Γ ρ σ j q := by
  obtain ⟨m', e, g1, g2, g3, g4, g5⟩ := h
  rcases set_get g3 with ⟨z, _, _⟩ | ⟨z, g3⟩
  · subst z; exact ⟨m', d, g1, g2, hd, hc, g5⟩
  · exact ⟨m', e, g1, g2, g3, g4, g5⟩
theorem Rel.upd (r : Rel K mg Γ ρ σ H F) (hm : Γ[i]? = some m) (hu : m.mut = true) (hd : ρ[i]? = some (some d)) (hc : cellD d = true) (hp : σ[i]? = some (some (.ref p))) (ho : H p = some o) (hf : F p = none) (hc' : cellD d' = true) (ct : cont K mg F d' o') :
    Rel K mg Γ (ρ.set i (some d')) σ (L2.upd H p o') F ∧ Evo (Own Γ ρ σ) H F (Own Γ (ρ.set i (some d')) σ) (L2.upd H p o') F := by
  have own : OwnAt Γ ρ σ i p := ⟨m, d, hm, hu, hd, hc, hp⟩
  have li : i < ρ.length := by
    rcases Nat.lt_or_ge i ρ.length with q | q
    · exact q
    · rw [List.getElem?_eq_none q] at hd; cases hd
  have brw1 : ∀ j q, BrwAt Γ (ρ.set i (some d')) σ j q → BrwAt Γ ρ σ j q := by
    rintro j q ⟨e, g1, g3, g4, g5⟩
    rcases set_get g3 with ⟨z, _, _⟩ | ⟨z, g3⟩
    · subst z; rw [hm] at g1; cases g1; cases hu
    · exact ⟨e, g1, g3, g4, g5⟩
  have sf : Same F (L2.upd H p o') := fun b x e => by rw [upd_ne (ne_of_none e hf)]; exact r.sub _ _ e
  refine ⟨⟨by rw [List.length_set]; exact r.lr, r.lg, fun j m' e g1 g2 => ?_, fun a b q ga gb => r.inj a b q (ownAt_set hd hc hc' ga) (ownAt_set hd hc hc' gb), sf⟩, Same.refl _, sf, fun q u e1 e2 e3 => ?_, fun q e => ?_, fun q ⟨j, hj⟩ => .inl ⟨j, ownAt_set hd hc hc' hj⟩, fun j q hj => brw1 j q hj⟩
  · rcases set_get g2 with ⟨z, z2, _⟩ | ⟨z, g2⟩
    · subst z; cases z2
      rw [hm] at g1; cases g1
      have cl : Cell K mg (L2.upd H p o') F (.ref p) d' := by unfold Cell; rw [if_pos hc']; exact ⟨p, o', rfl, upd_same, ct, hf⟩
      refine ⟨_, hp, ?_⟩
      cases m with
      | own => exact cl
      | io q =>
        obtain ⟨v, k1, k2⟩ := r.slot i _ d hm hd
        rw [hp] at k1; cases k1
        exact ⟨k2.1, hc', cl⟩
      | fz => cases hu
      | brw => cases hu
      | xc a c x => cases hu
    · obtain ⟨v, k1, k2⟩ := r.slot j m' e g1 g2
      refine ⟨v, k1, ?_⟩
      have other : ∀ {v : V}, σ[j]? = some (some v) → m'.mut = true → Cell K mg H F v e → Cell K mg (L2.upd H p o') F v e := fun {v} k1 mu c => by
        unfold Cell at c ⊢
        split
        · rename_i h
          rw [if_pos h] at c
          obtain ⟨q, u, e1, e2, e3, e4⟩ := c
          subst e1
          refine ⟨q, u, rfl, ?_, e3, e4⟩
          rw [upd_ne (fun x => z (r.inj i j p own ⟨m', e, g1, mu, g2, h, by rw [k1, x]⟩))]
          exact e2
        · rename_i h
          rw [if_neg h] at c
          exact c
      cases m' with
      | xc a c x => exact k2
      | fz => exact k2
      | own => exact other k1 rfl k2
      | io q => exact ⟨k2.1, k2.2.1, other k1 rfl k2.2.2⟩
      | brw =>
        have k2 : RdN K mg (Own Γ ρ σ) H F v e := k2
        show RdN K mg _ (L2.upd H p o') F v e
        unfold RdN at k2 ⊢
        split
        · rename_i h
          rw [if_pos h] at k2
          obtain ⟨q, u, e1, e2, e3, e4⟩ := k2
          have ne : q ≠ p := fun x => by
            subst x
            rcases e4 with e4 | ⟨_, e4⟩
            · rw [hf] at e4; cases e4
            · exact e4 ⟨i, own⟩
          refine ⟨q, u, e1, by rw [upd_ne ne]; exact e2, e3, ?_⟩
          rcases e4 with e4 | ⟨e4, e5⟩
          · exact .inl e4
          · exact .inr ⟨e4, fun ⟨k, hk⟩ => e5 ⟨k, ownAt_set hd hc hc' hk⟩⟩
        · rename_i h
          rw [if_neg h] at k2
          exact k2
  · have ne : q ≠ p := fun x => by subst x; exact e3 ⟨i, own⟩
    rw [upd_ne ne]
    exact ⟨e1, e2⟩
  · by_cases hq : q = p
    · subst hq; rw [upd_same] at e; cases e
    · rw [upd_ne hq] at e; exact e
end

section
variable {X : Cx} {Γ Γ' Γ1 Γ2 Γ3 : Gm} {S : SC} {W : WE} {st : Stmt} {sts rest : List Stmt} {o e a b c : Expr} {es : List Expr} {pos pos' apos cpos : Pos} {m : Md} {ev fi fe : Ev} {et : Et} {as : List Arg} {i : Nat} {name : Str} {id : String} {r : V → List V → Hp → VK → Prop}
def isLst : D → Bool
  | .lst _ => true
  | _ => false
/-- a method that changes the list: its new content and the answer -/
def MtF (K : PySem.W.Frag) (mg : Str → Option Value) (f : List D → List D → Option (List D × D)) (r : V → List V → Hp → VK → Prop) : Prop :=
  ∀ H F p ws l ds vs l' u Q, Same F H → H p = some (.lst ws) → reps K mg F l ws → reps K mg F ds vs → f l ds = some (l', u) → (∀ ws' v, reps K mg F l' ws' → rep K mg F u v → Q v (L2.upd H p (.lst ws'))) → r (.ref p) vs H Q
def eMut (i : Nat) (f : List D → List D → Option (List D × D)) (as : List Arg) : Ev := fun ρ => (gv ρ i).bind fun d0 => if isLst d0 = true then (Arg.runs as ρ).bind fun p => (Arg.fins as p.1 p.2).bind fun ds => (gv p.2 i).bind fun d => match d with
  | .lst l => (opt (f l ds)).bind fun q => .ok (q.2, p.2.set i (some (.lst q.1)))
  | _ => .bad
  else .bad
theorem mut_core {f : List D → List D → Option (List D × D)} (hf : MtF X.K X.mg f r) (hm : Γ1[i]? = some m) (hu : m.mut = true) (hv : allVal as = true) {ρ1 : Env} {σ : St} {H0 F0 H F : Hp} {ρ0 : Env} {Q : VK} {ods : List (Option D)} {vs : List V} {v : V}
    (r1 : Rel X.K X.mg Γ1 ρ1 σ H F) (e1 : Evo (Own Γ ρ0 σ) H0 F0 (Own Γ1 ρ1 σ) H F) (b1 : AOks X.K X.mg as ods (Own Γ1 ρ1 σ) σ H F vs) (hs : σ[i]? = some (some v))
    (q : ((Arg.fins as ods ρ1).bind fun ds => (gv ρ1 i).bind fun d => match d with
      | .lst l => (opt (f l ds)).bind fun q => .ok (q.2, ρ1.set i (some (.lst q.1)))
      | _ => .bad).sat (fun r => ∀ v H' F', Evo (Own Γ ρ0 σ) H0 F0 (Own Γ1 r.2 σ) H' F' → Rel X.K X.mg Γ1 r.2 σ H' F' → ValOk X.K X.mg .fz (Own Γ1 r.2 σ) H0 H' F' v r.1 → Q v H') (exW W Γ ρ0 σ H0 F0)) : r v vs H Q := by
  obtain ⟨ds, hds, q⟩ := fins_sat q
  obtain ⟨d, hd, q⟩ := gv_sat (Res.sat_bind.mp q)
  cases d <;> first | exact q.elim | skip
  rename_i l
  obtain ⟨⟨l', u⟩, hl, q⟩ := opt_sat (Res.sat_bind.mp q)
  obtain ⟨p, ob, k1, k2, k3, k4⟩ := r1.ownAt hm hu hd rfl
  rw [k1] at hs; cases hs
  obtain ⟨ws, rfl, k5⟩ := k3
  refine hf H F p ws l ds vs l' u Q r1.sub k2 k5 ((b1.fin r1 hds).reps hv) hl fun ws' v w1 w2 => ?_
  obtain ⟨r2, e2⟩ := r1.upd (d' := .lst l') (o' := .lst ws') hm hu hd rfl k1 k2 k4 rfl ⟨ws', rfl, w1⟩
  exact q v _ F (e1.trans e2) r2 w2
theorem ve_mut {f : List D → List D → Option (List D × D)} (hf : MtF X.K X.mg f r) (slot : Slot "list" name id) (hty : typeOf (.builtin id) = pure (.type "method_descriptor")) (hr : MtR X id r) (ho : PE X o (tVar i)) (ha : VA X Γ Γ1 W (e :: es) as)
    (hm : Γ1[i]? = some m) (hu : m.mut = true) (hv : allVal as = true)
    (hbase : attributeBase o name X.env (eval o X.env) = eval o X.env := by rfl)
    (hfew : ((backTo cpos (starEach (e :: es) X.env)).all (fun x => !x.1) && (backToKw cpos (keywordEach [] X.env)).all (fun x => x.1.isSome)
      && decide ((e :: es).length + ([] : List Keyword).length + (if ([] : List Keyword).isEmpty then 0 else 1) < 30)) = true := by rfl)
    (hline : (apos.endLine == cpos.line) = true := by rfl) (hs : starEach (e :: es) X.env = (false, eval e X.env) :: starEach es X.env := by rfl) (hplain : (backTo cpos (starEach es X.env)).any (·.1) = false := by rfl) :
    VE X Γ Γ1 W (.Call (.Attribute o name apos) (e :: es) [] cpos) .fz (eMut i f as) :=
  peImp (pe_bm PySem.F.plainAttrs_list slot hty hr ho ha hbase hfew hline hs hplain) fun σ H Q ⟨ρ, F, r0, q⟩ => by
    obtain ⟨d0, e2, q⟩ := gv_sat (Res.sat_bind.mp q)
    by_cases hl : isLst d0 = true
    · rw [if_pos hl] at q
      cases d0 <;> first | (cases hl; done) | skip
      obtain ⟨v, h1, h2⟩ := r0.rdd e2
      obtain ⟨p, ws, rfl, h3, h4⟩ := h2.lst
      refine ⟨_, h1, .inl ⟨rfl, ws, .of h3⟩, ρ, F, r0, Res.sat_imp (Res.sat_bind.mp q) (fun z _ q vs H1 F1 ee r1 b1 => ?_) fun _ h => h⟩
      exact mut_core hf hm hu hv r1 ee b1 h1 q
    · rw [if_neg hl] at q; exact q.elim
theorem ve_mut0 {f : List D → List D → Option (List D × D)} (hf : MtF X.K X.mg f r) (slot : Slot "list" name id) (hty : typeOf (.builtin id) = pure (.type "method_descriptor")) (hr : MtR X id r) (ho : PE X o (tVar i))
    (hm : Γ[i]? = some m) (hu : m.mut = true)
    (hbase : attributeBase o name X.env (eval o X.env) = eval o X.env := by rfl) (hline : (apos.endLine == cpos.line) = true := by rfl) :
    VE X Γ Γ W (.Call (.Attribute o name apos) [] [] cpos) .fz (eMut i f []) :=
  peImp (pe_bm0 PySem.F.plainAttrs_list slot hty hr ho hbase hline) fun σ H Q ⟨ρ, F, r0, q⟩ => by
    obtain ⟨d0, e2, q⟩ := gv_sat (Res.sat_bind.mp q)
    by_cases hl : isLst d0 = true
    · rw [if_pos hl] at q
      cases d0 <;> first | (cases hl; done) | skip
      obtain ⟨v, h1, h2⟩ := r0.rdd e2
      obtain ⟨p, ws, rfl, h3, h4⟩ := h2.lst
      exact ⟨_, h1, .inl ⟨rfl, ws, .of h3⟩, mut_core (as := []) (ods := []) (vs := []) hf hm hu rfl r0 (Evo.refl r0.sub) ⟨rfl, rfl⟩ h1 q⟩
    · rw [if_neg hl] at q; exact q.elim
def mAppend : List D → List D → Option (List D × D)
  | l, [d] => if l.length < 16777216 then some (l ++ [d], .non) else none
  | _, _ => none
theorem m_append {K : PySem.W.Frag} {mg : Str → Option Value} : MtF K mg mAppend rAppend := by
  intro H F p ws l ds vs l' u Q s hp rl rd hf q
  unfold mAppend at hf
  split at hf
  · split at hf <;> cases hf
    rename_i d hl
    simp only [reps] at rd
    obtain ⟨v, w, rfl, h1, rfl⟩ := rd
    exact ⟨p, ws, v, rfl, rfl, hp, by rw [sizeLine_eq, reps_length rl]; exact hl, q _ _ (reps_append rl (reps_one h1)) rfl⟩
  · cases hf
def mReverse : List D → List D → Option (List D × D)
  | l, [] => some (l.reverse, .non)
  | _, _ => none
theorem m_reverse {K : PySem.W.Frag} {mg : Str → Option Value} : MtF K mg mReverse rReverse := by
  intro H F p ws l ds vs l' u Q s hp rl rd hf q
  unfold mReverse at hf
  split at hf <;> cases hf
  simp only [reps] at rd
  subst rd
  exact ⟨p, ws, rfl, rfl, hp, q _ _ (reps_reverse rl) rfl⟩
theorem reps_dropLast {K : PySem.W.Frag} {mg : Str → Option Value} {F : Hp} {l : List D} {vs : List V} (h : reps K mg F l vs) : reps K mg F l.dropLast vs.dropLast := by
  rw [List.dropLast_eq_take, List.dropLast_eq_take, reps_length h]
  exact reps_take _ h
def mPop : List D → List D → Option (List D × D)
  | l, [] => l[l.length - 1]?.map fun d => (l.dropLast, d)
  | _, _ => none
theorem m_pop {K : PySem.W.Frag} {mg : Str → Option Value} : MtF K mg mPop rPop := by
  intro H F p ws l ds vs l' u Q s hp rl rd hf q
  cases ds with
  | cons _ _ => cases hf
  | nil =>
    simp only [mPop] at hf
    cases hd : l[l.length - 1]? with
    | none => rw [hd] at hf; cases hf
    | some d =>
      rw [hd] at hf; cases hf
      simp only [reps] at rd
      subst rd
      obtain ⟨v, h1, h2⟩ := reps_get rl hd
      exact ⟨p, ws, v, rfl, rfl, hp, by rw [reps_length rl]; exact h1, q _ _ (reps_dropLast rl) h2⟩

/-! ### x[k] = e, x[k] op= e -/
def sSetIx (i : Nat) (fi fe : Ev) : Es := fun ρ => (fe ρ).bind fun r => (gv r.2 i).bind fun _ => (fi r.2).bind fun k => (gv k.2 i).bind fun d => match d, k.1 with
  | .lst l, .int n => match ixN l.length n with
    | some j => .ok (.next (k.2.set i (some (.lst (l.set j r.1)))))
    | none => .bad
  | _, _ => .bad
theorem set_core {ρ : Env} {σ : St} {H F : Hp} {n : Int} {j : Nat} {l : List D} {d : D} {v w : V} {Q : Hp → Prop} (r : Rel X.K X.mg Γ ρ σ H F) (hm : Γ[i]? = some m) (hu : m.mut = true) (hd : ρ[i]? = some (some (.lst l))) (hj : ixN l.length n = some j) (rd : rep X.K X.mg F d v)
    (hs : σ[i]? = some (some w)) (q : ∀ H', Rel X.K X.mg Γ (ρ.set i (some (.lst (l.set j d)))) σ H' F → Evo (Own Γ ρ σ) H F (Own Γ (ρ.set i (some (.lst (l.set j d)))) σ) H' F → Q H') : rSetL w (.int n) v H Q := by
  obtain ⟨p, ob, k1, k2, k3, k4⟩ := r.ownAt hm hu hd rfl
  rw [k1] at hs; cases hs
  obtain ⟨ws, rfl, k5⟩ := k3
  obtain ⟨r2, e2⟩ := r.upd (d' := .lst (l.set j d)) (o' := .lst (ws.set j v)) hm hu hd rfl k1 k2 k4 rfl ⟨_, rfl, reps_set j k5 rd⟩
  exact ⟨p, ws, n, j, rfl, rfl, k2, by rw [reps_length k5]; exact hj, q _ r2 e2⟩
theorem vs_setIx {tg : Expr} (he : VE X Γ Γ1 W e .fz fe) (hp : PG X tg (gSub (tVar i) (trE X Γ1 Γ2 W .fz fi) rSetL)) (hm : Γ2[i]? = some m) (hu : m.mut = true)
    (hs : swapsWithSole [tg] e pos.line X.env = pure false := by rfl) (hw : swappedStores [tg] e X.env = pure none := by rfl) (h1 : (assignEach [tg] X.env).map (·.2) = [assign tg X.env] := by rfl) : VS X Γ Γ2 S W (.Assign [tg] e pos) (sSetIx i fi fe) :=
  psImp (ps_asg he hp hs hw h1) fun D σ H ⟨ρ, F, r, q⟩ => ⟨ρ, F, r, Res.sat_imp (Res.sat_bind.mp q) (fun z _ q v H1 F1 e1 r1 vo => by
    obtain ⟨d0, hd0, q⟩ := gv_sat (Res.sat_bind.mp q)
    obtain ⟨w, h1, _⟩ := r1.rdd hd0
    refine ⟨w, h1, z.2, F1, r1, Res.sat_imp (Res.sat_bind.mp q) (fun k _ q u H2 F2 e2 r2 ko => ?_) fun _ h => h.ex.evo e1⟩
    obtain ⟨d, hd, q⟩ := gv_sat (Res.sat_bind.mp q)
    cases d <;> first | exact q.elim | skip
    rename_i l
    cases hk : k.1 <;> rw [hk] at q <;> first | exact q.elim | skip
    rename_i n
    rw [hk] at ko
    have ko : u = .int n := ko
    subst ko
    dsimp only at q
    split at q
    · rename_i j hj
      exact set_core r2 hm hu hd hj (rep_mono e2.sf vo) h1 fun H3 r3 e3 => q σ H3 F2 ((e1.trans e2).trans e3) Keep.refl r3
    · exact q.elim) fun _ h => h.ex⟩
theorem pg_list : PGet X (rIxL X.K) := by
  intro pins s σ H x y v u Q I rx ry h
  obtain ⟨p, xs, i, z, rfl, rfl, hq, he, q⟩ := h
  cases rx
  obtain ⟨t, rfl⟩ := ry
  obtain ⟨its, r, pl, hz⟩ := I.list hq
  obtain ⟨j, h1, h2, h3, h4, h5⟩ := atI_get he
  obtain ⟨w, ew, rw'⟩ := r.get h2
  have hl := r.length
  have hn := line63
  have fin : EP X pins σ Q w s := ⟨z, H, I, rw', q⟩
  by_cases h0 : 0 ≤ i
  · have hj : i.toNat = j := by
      rw [seqIndex_of h0 h5] at h1
      exact Option.some.inj h1
    exact wpAny_getItem_list pl.isList h0 (by omega) (by rw [hj]; simpa using ew) fin
  · have hj : (i + (its.toArray.size : Int)).toNat = j := by
      rw [seqIndex_neg (by omega) h4] at h1
      rw [List.size_toArray, ← hl]
      exact Option.some.inj h1
    exact wpAny_getItem_list_neg pl.isList (by omega) (by rw [List.size_toArray] <;> omega) (by omega) (by rw [hj]; simpa using ew) fin
def sAugIx (i : Nat) (g : Int → Int → Int) (fi fe : Ev) : Es := fun ρ => (gv ρ i).bind fun _ => (fi ρ).bind fun k => (gv k.2 i).bind fun d0 => match d0, k.1 with
  | .lst l0, .int n => match atI l0 n with
    | some (.int x) => (fe k.2).bind fun r => match r.1 with
      | .int y => (gv r.2 i).bind fun d => match d with
        | .lst l => match ixN l.length n with
          | some j => .ok (.next (r.2.set i (some (.lst (l.set j (.int (g x y)))))))
          | none => .bad
        | _ => .bad
      | _ => .bad
    | _ => .bad
  | _, _ => .bad
theorem vs_augIx {g : Int → Int → Int} (hp : PS X st (tAugS (tVar i) (trE X Γ Γ1 W .fz fi) (trE X Γ1 Γ2 W .fz fe) (rIxL X.K) (ipI g) rSetL)) (hm : Γ2[i]? = some m) (hu : m.mut = true) : VS X Γ Γ2 S W st (sAugIx i g fi fe) :=
  psImp hp fun D σ H ⟨ρ, F, r, q⟩ => by
    obtain ⟨d00, hd00, q⟩ := gv_sat (Res.sat_bind.mp q)
    obtain ⟨w, h1, _⟩ := r.rdd hd00
    refine ⟨w, h1, ρ, F, r, Res.sat_imp (Res.sat_bind.mp q) (fun k _ q u H1 F1 e1 r1 ko => ?_) fun _ h => h.ex⟩
    obtain ⟨d0, hd0, q⟩ := gv_sat (Res.sat_bind.mp q)
    cases d0 <;> first | exact q.elim | skip
    rename_i l0
    cases hk : k.1 <;> rw [hk] at q <;> first | exact q.elim | skip
    rename_i n
    rw [hk] at ko
    have ko : u = .int n := ko
    subst ko
    dsimp only at q
    split at q <;> first | exact q.elim | skip
    rename_i x hx
    obtain ⟨w', h1', rd0⟩ := r1.rdd hd0
    rw [h1] at h1'; cases h1'
    obtain ⟨p, vs, rfl, h2, h3⟩ := rd0.lst
    obtain ⟨y0, h4, h5⟩ := atI_reps h3 hx
    simp only [rep] at h5
    subst h5
    refine ⟨p, vs, n, _, rfl, rfl, .of h2, h4, k.2, F1, r1, Res.sat_imp (Res.sat_bind.mp q) (fun z _ q v H2 F2 e2 r2 vo => ?_) fun _ h => h.ex.evo e1⟩
    cases hz : z.1 <;> rw [hz] at q <;> first | exact q.elim | skip
    rename_i y
    rw [hz] at vo
    have vo : v = .int y := vo
    subst vo
    obtain ⟨d, hd, q⟩ := gv_sat (Res.sat_bind.mp q)
    cases d <;> first | exact q.elim | skip
    rename_i l
    dsimp only at q
    split at q
    · rename_i j hj
      exact ⟨x, y, rfl, rfl, set_core r2 hm hu hd hj (d := .int (g x y)) (by simp only [rep]) h1 fun H3 r3 e3 => q σ H3 F2 ((e1.trans e2).trans e3) Keep.refl r3⟩
    · exact q.elim
/-- x op= e, x a slot: ints, texts -/
def sAug (i : Nat) (f : D → D → Option D) (fe : Ev) : Es := fun ρ => (gv ρ i).bind fun x => (fe ρ).bind fun r => (opt (f x r.1)).bind fun d => .ok (.next (r.2.set i (some d)))
def dAddI : D → D → Option D
  | .int i, .int j => some (.int (i + j))
  | .str a, .str b => if a.length + b.length ≤ 16777216 then some (.str (a ++ b)) else none
  | _, _ => none
theorem vs_aug {f : D → D → Option D} {op : Operator} {x : Str} {t : TIp} (ho : PIp X op t) (hf : OpF X.K X.mg f t .fz) (hat : ∀ a b d, f a b = some d → cellD a = false ∧ cellD d = false) (hN : X.N.Nodup) (hi : X.N[i]? = some x) (hx : Loc X.env.scope x) (he : VE X Γ Γ1 W e .fz fe) (hl : i < Γ1.length) (ha : i ∈ S.As)
    (hf' : X.fn x = true ∨ X.env.scope.names.lookup x = some .local := by first | exact .inl rfl | exact .inr rfl | assumption) : VS X Γ (Γ1.set i .fz) S W (.AugAssign (.Name x pos') op e pos) (sAug i f fe) :=
  psImp (ps_aug hN hi hx he ho hf') fun D σ H ⟨ρ, F, r, q⟩ => by
    obtain ⟨d0, hd0, q⟩ := gv_sat (Res.sat_bind.mp q)
    obtain ⟨w, h1, h2⟩ := r.rdd hd0
    refine ⟨w, h1, ρ, F, r, Res.sat_imp (Res.sat_bind.mp q) (fun z _ q v H1 F1 e1 r1 vo => ?_) fun _ h => h.ex⟩
    obtain ⟨d, hd, q⟩ := opt_sat (Res.sat_bind.mp q)
    obtain ⟨c1, c2⟩ := hat _ _ _ hd
    have h2' : Rdd X.K X.mg H1 F1 w d0 := by
      have := rep_mono e1.sf (h2.of_rep c1)
      exact rep.rdd r1.sub this
    refine hf H1 F1 w v d0 z.1 d _ r1.sub h2' (rep.rdd r1.sub vo) hd fun u H2 F2 g n => ?_
    obtain ⟨r2, e2⟩ := (r1.grow g).setM hl (e1.trans g.evo) r.brwThere (m := .fz) n (.inl rfl)
    exact q _ H2 F2 e2 (Keep.set ha) r2
theorem f_addI {K : PySem.W.Frag} {mg : Str → Option Value} : OpF K mg dAddI (fun x y H Q => rI0 (fun i j => .int (i + j)) x y H Q ∨ ∃ i j, x = .str i ∧ y = .str j ∧ i.length + j.length ≤ sizeLine ∧ Q (.str (i ++ j)) H) .fz := by
  intro H F v w a b d Q s ra rb hf q
  unfold dAddI at hf
  split at hf
  · cases hf
    exact .inl ⟨_, _, ra.int, rb.int, q _ H F (Grow.refl s) (.atom rfl rfl)⟩
  · split at hf <;> cases hf
    rename_i x y h
    refine .inr ⟨_, _, ra.str, rb.str, by rw [sizeLine_eq]; simpa [Str.length] using h, ?_⟩
    rw [str_append]
    exact q _ H F (Grow.refl s) (.atom rfl (by simp only [rep]))
  · cases hf
theorem ip_addI : PIp X .Add (fun x y H Q => rI0 (fun i j => .int (i + j)) x y H Q ∨ ∃ i j, x = .str i ∧ y = .str j ∧ i.length + j.length ≤ sizeLine ∧ Q (.str (i ++ j)) H) := iop_add.or iop_add_str
theorem at_addI : ∀ a b d, dAddI a b = some d → cellD a = false ∧ cellD d = false := by
  intro a b d h
  unfold dAddI at h
  split at h
  · cases h; exact ⟨rfl, rfl⟩
  · split at h <;> cases h; exact ⟨rfl, rfl⟩
  · cases h
theorem ip_subI : PIp X .Sub (rI0 fun i j => .int (i - j)) := iop_sub
theorem at_sub : ∀ a b d, dSub a b = some d → cellD a = false ∧ cellD d = false := by
  intro a b d h
  unfold dSub at h
  split at h <;> cases h; exact ⟨rfl, rfl⟩

/-! ### targets -/
inductive Tg where
  | name (i : Nat) | tup (l : List Tg)
mutual
def bindT : Tg → D → Env → Option Env
  | .name i, d, ρ => some (ρ.set i (some d))
  | .tup l, .tup ds, ρ => bindTs l ds ρ
  | .tup _, _, _ => none
def bindTs : List Tg → List D → Env → Option Env
  | [], [], ρ => some ρ
  | t :: ts, d :: ds, ρ => (bindT t d ρ).bind fun ρ' => bindTs ts ds ρ'
  | _, _, _ => none
end
/-- after a target's store: the same footprint -/
def Moved (X : Cx) (Γ : Gm) (As : List Nat) (ρ : Env) (σ : St) (ρ' : Env) (σ' : St) (H F : Hp) : Prop :=
  Rel X.K X.mg Γ ρ' σ' H F ∧ Evo (Own Γ ρ σ) H F (Own Γ ρ' σ') H F ∧ Keep As σ σ'
def trG (X : Cx) (Γ : Gm) (As : List Nat) (tg : Tg) : TG := fun v σ H Q => ∃ ρ F d ρ', Rel X.K X.mg Γ ρ σ H F ∧ rep X.K X.mg F d v ∧ bindT tg d ρ = some ρ' ∧ ∀ σ', Moved X Γ As ρ σ ρ' σ' H F → Q σ' H
abbrev VG (X : Cx) (Γ : Gm) (As : List Nat) (tg : Expr) (t : Tg) : Prop := PG X tg (trG X Γ As t)
def trGs (X : Cx) (Γ : Gm) (As : List Nat) (tg : List Tg) : TGs := fun vs σ H Q => ∃ ρ F ds ρ', Rel X.K X.mg Γ ρ σ H F ∧ reps X.K X.mg F ds vs ∧ bindTs tg ds ρ = some ρ' ∧ ∀ σ', Moved X Γ As ρ σ ρ' σ' H F → Q σ' H
abbrev VGs (X : Cx) (Γ : Gm) (As : List Nat) (tg : List Expr) (t : List Tg) : Prop := PGs X tg (trGs X Γ As t)
theorem pgImp {tg : Expr} {t t' : TG} (h : PG X tg t) (i : ∀ v σ H Q, t' v σ H Q → t v σ H Q) : PG X tg t' := ⟨fun pins s σ H v u Q I r q => h.run pins s σ H v u Q I r (i v σ H Q q)⟩
theorem pgsImp {tg : List Expr} {t t' : TGs} (h : PGs X tg t) (i : ∀ v σ H Q, t' v σ H Q → t v σ H Q) : PGs X tg t' := ⟨fun pins s σ H v u Q I r q => h.run pins s σ H v u Q I r (i v σ H Q q)⟩
theorem set_self {l : Gm} {i : Nat} {m : Md} (h : l[i]? = some m) : l.set i m = l := by
  apply List.ext_getElem?
  intro j
  by_cases e : i = j
  · subst e
    have hl : i < l.length := by
      rcases Nat.lt_or_ge i l.length with q | q
      · exact q
      · rw [List.getElem?_eq_none q] at h; cases h
    rw [getset hl, h]
  · rw [List.getElem?_set_ne e]
theorem vg_name {i : Nat} {x : Str} {As : List Nat} (hN : X.N.Nodup) (hi : X.N[i]? = some x) (hx : Loc X.env.scope x) (hm : Γ[i]? = some .fz) (ha : i ∈ As) (hf : X.fn x = true ∨ X.env.scope.names.lookup x = some .local := by first | exact .inl rfl | exact .inr rfl | assumption) : VG X Γ As (.Name x pos) (.name i) :=
  pgImp (pg_name hN hi hx hf) fun v σ H Q ⟨ρ, F, d, ρ', r, rd, hb, q⟩ => by
    simp only [bindT] at hb
    cases hb
    have hl : i < Γ.length := by
      rcases Nat.lt_or_ge i Γ.length with q | q
      · exact q
      · rw [List.getElem?_eq_none q] at hm; cases hm
    obtain ⟨r2, e2⟩ := r.setM (m := .fz) (v := v) (d := d) hl (Evo.refl r.sub) r.brwThere rd (.inl rfl)
    rw [set_self hm] at r2 e2
    exact q _ ⟨r2, e2, Keep.set ha⟩
theorem vgs_nil {As : List Nat} : VGs X Γ As [] [] := pgsImp pgs_nil fun vs σ H Q ⟨ρ, F, ds, ρ', r, rd, hb, q⟩ => by
  cases ds with
  | cons _ _ => simp only [bindTs] at hb; cases hb
  | nil =>
    simp only [bindTs] at hb; cases hb
    simp only [reps] at rd
    exact ⟨rd, q σ ⟨r, Evo.refl r.sub, Keep.refl⟩⟩
theorem vgs_cons {As : List Nat} {t : Tg} {ts : List Tg} (h1 : VG X Γ As e t) (h2 : VGs X Γ As es ts) (hs : (assignEach (e :: es) X.env).map (·.2) = assign e X.env :: (assignEach es X.env).map (·.2) := by rfl) : VGs X Γ As (e :: es) (t :: ts) :=
  pgsImp (pgs_cons h1 h2 hs) fun vs σ H Q ⟨ρ, F, ds, ρ', r, rd, hb, q⟩ => by
    cases ds with
    | nil => simp only [bindTs] at hb; cases hb
    | cons d ds =>
      simp only [bindTs] at hb
      cases h : bindT t d ρ with
      | none => rw [h] at hb; cases hb
      | some ρ1 =>
        rw [h] at hb
        simp only [reps] at rd
        obtain ⟨v, w, rfl, k1, k2⟩ := rd
        refine ⟨v, w, rfl, ρ, F, d, ρ1, r, k1, h, fun σ1 ⟨m1, m2, m3⟩ => ⟨ρ1, F, ds, ρ', m1, k2, hb, fun σ2 ⟨n1, n2, n3⟩ => q σ2 ⟨n1, m2.trans n2, m3.trans n3⟩⟩⟩
theorem vg_tup {As : List Nat} {k : Nat} {ts : List Tg} {n : Nat} (hc : X.calm = true) (h : VGs X Γ As es ts) (hn : (assignEach es X.env).length = n := by rfl) (hl : ts.length = n := by rfl) (hst : (assignEach es X.env).findIdx? (·.1) = none := by rfl) : VG X Γ As (.Tuple es k pos) (.tup ts) :=
  pgImp (pg_tup hc h hn hst) fun v σ H Q ⟨ρ, F, d, ρ', r, rd, hb, q⟩ => by
    cases d <;> first | (simp only [bindT] at hb; cases hb; done) | skip
    rename_i ds
    simp only [rep] at rd
    obtain ⟨p, vs, rfl, h1, h2⟩ := rd
    simp only [bindT] at hb
    have len : ∀ (ts : List Tg) (ds : List D) (ρ ρ' : Env), bindTs ts ds ρ = some ρ' → ds.length = ts.length := by
      intro ts
      induction ts with
      | nil => intro ds ρ ρ' h; cases ds with
        | nil => rfl
        | cons _ _ => simp only [bindTs] at h; cases h
      | cons t ts ih => intro ds ρ ρ' h; cases ds with
        | nil => simp only [bindTs] at h; cases h
        | cons d ds =>
          simp only [bindTs] at h
          cases h2 : bindT t d ρ with
          | none => rw [h2] at h; cases h
          | some ρ1 => rw [h2] at h; simp only [List.length_cons, ih ds _ _ h]
    exact ⟨p, vs, rfl, Same.sqT r.sub h1, by rw [reps_length h2, len ts ds _ _ hb, hl], ρ, F, ds, ρ', r, h2, hb, q⟩
/-- a, b = e -/
def sAsg (t : Tg) (f : Ev) : Es := fun ρ => (f ρ).bind fun r => (opt (bindT t r.1 r.2)).bind fun ρ' => .ok (.next ρ')
theorem vs_asg {tg : Expr} {t : Tg} (he : VE X Γ Γ1 W e .fz ev) (hg : VG X Γ1 S.As tg t) (hs : swapsWithSole [tg] e pos.line X.env = pure false := by rfl) (hw : swappedStores [tg] e X.env = pure none := by rfl)
    (h1 : (assignEach [tg] X.env).map (·.2) = [assign tg X.env] := by rfl) : VS X Γ Γ1 S W (.Assign [tg] e pos) (sAsg t ev) :=
  psImp (ps_asg he hg hs hw h1) fun D σ H ⟨ρ, F, r, q⟩ => ⟨ρ, F, r, Res.sat_imp (Res.sat_bind.mp q) (fun z _ q v H1 F1 e1 r1 vo => by
    obtain ⟨ρ', hb, q⟩ := opt_sat (Res.sat_bind.mp q)
    exact ⟨z.2, F1, z.1, ρ', r1, vo, hb, fun σ' ⟨m1, m2, m3⟩ => q σ' H1 F1 (e1.trans m2) m3 m1⟩) fun _ h => h.ex⟩
end
/-! ### enumerate of a list or a text -/
section
open Builtin
def IteS (x : Str) : It :=
  ⟨fun i _ => i < x.cps.size, fun i H v H' => ∃ T c, v = .ref T ∧ H T = none ∧ H' = upd H T (.tup [.int (i : Nat), .str ⟨#[c]⟩]) ∧ x.cps[i]? = some c, fun i _ => x.cps.size ≤ i⟩
theorem turn_enumS {P : Program} {w : World} {K : PySem.W.Frag} {elts : List Expr} {kk : Nat} {tpos : Pos} (x : Str) (t : Tok) (e it : Addr) (ty : String) (hty : ty = "str_ascii_iterator" ∨ ty = "str_iterator") :
    Turn P w K (.Tuple elts kk tpos) (IteS x) [e, it] e (fun i h => (∃ old, IsEnum h e it ((i : Nat) : Int) old) ∧ h.IsStrIter it ty x t i ∧ e ≠ it) where
  mem := by simp
  obj := fun i h st b hb => by
    obtain ⟨⟨old, he⟩, ⟨o, ho, hc, hd⟩, _⟩ := st
    have e' : b = e ∨ b = it := by simpa using hb
    rcases e' with z | z
    · rw [z]; exact ⟨_, he, fun v q => nomatch q⟩
    · rw [z]; exact ⟨o, ho, fun v q => by rw [hd] at q; cases q⟩
  keep := fun i h h' st k => let ⟨⟨old, he⟩, ⟨o, ho, r⟩, hne⟩ := st; ⟨⟨old, k e (by simp) _ he⟩, ⟨o, k it (by simp) o ho, r⟩, hne⟩
  item := by
    intro X hP hw hK hc i pins s σ H E I hf st hg
    subst hP hw hK
    obtain ⟨⟨old, he⟩, hit, hne⟩ := st
    have hel : e < s.heap.objs.size := Heap.lt_size he
    have hil : it < s.heap.objs.size := by obtain ⟨_, q, _⟩ := hit; exact Heap.lt_size q
    have D : Draws X.prog X.w X.A.in1 it [it] x.cps.size (fun i v => ∃ c u, x.cps[i]? = some c ∧ v = .str ⟨#[c]⟩ u) (fun i h => h.IsStrIter it ty x t i) := by
      rcases hty with z | z
      · subst z; exact Draws.strAscii (A := X.A.in1) (I.ok.hd hc) it x t
      · subst z; exact Draws.strWide (A := X.A.in1) (I.ok.hd hc) it x t
    refine wpAny_pyNext_enum_itemD D he hit hg hne (by simpa using hne) fun u h' tk hP ho hit' hT hsz hk => ?_
    obtain ⟨c, ut, hx, rfl⟩ := hP
    refine ⟨_, rfl, wpAny_letOwnedTupleGo_enum (s := { s with heap := h', toks := tk + 1 }) ho fun h'' he' sb => ?_⟩
    have hT2 : h''.get? s.heap.objs.size = some { cls := .type "tuple", data := .seq #[.int i tk, .str ⟨#[c]⟩ ut] } := (sb.2 _ (Nat.ne_of_gt hel)).trans hT
    have new : ObjOk X.prog X.w (upd H s.heap.objs.size (.tup [.int (i : Nat), .str ⟨#[c]⟩])) h'' s.heap.objs.size (.tup [.int (i : Nat), .str ⟨#[c]⟩]) :=
      ⟨by show 2 ≤ sizeLine; decide, [.int i tk, .str ⟨#[c]⟩ ut], .cons ⟨_, rfl⟩ (.cons ⟨_, rfl⟩ .nil), ⟨_, hT2, rfl, _, rfl⟩⟩
    have I1 : Inv X pins σ (upd H s.heap.objs.size (.tup [.int (i : Nat), .str ⟨#[c]⟩])) { s with heap := h'', toks := tk + 1 } :=
      I.turnedNew (ch := [e, it]) (fun b ob hb q => (sb.2 b (fun z => hb (by simp [z]))).trans (hk b ob (fun z => hb (by simp [z])) (fun z => hb (by simp [z])) q)) hf (Nat.le_refl _) new
    have hit2 : h''.IsStrIter it ty x t (i + 1) := by
      obtain ⟨o, ho2, r⟩ := hit'
      exact ⟨o, (sb.2 it (Ne.symm hne)).trans ho2, r⟩
    refine ⟨.ref s.heap.objs.size, _, I1, rfl, ⟨_, c, rfl, I.hok.fresh (Nat.le_refl _), rfl, hx⟩, ⟨⟨.str ⟨#[c]⟩ ut, ?_⟩, hit2, hne⟩, fun b hb => ?_⟩
    · have e1 : ((i + 1 : Nat) : Int) = (i : Int) + 1 := by omega
      rw [e1]; exact he'
    · have hb' : b < s.heap.objs.size := by
        have e' : b = e ∨ b = it := by simpa using hb
        rcases e' with z | z
        · rw [z]; exact hel
        · rw [z]; exact hil
      rw [upd_ne (Nat.ne_of_lt hb')]
      exact (hf b hb).1
  done := by
    intro X hP hw hK hc i pins s σ H E I hf st hg
    subst hP hw hK
    obtain ⟨⟨old, he⟩, hit, hne⟩ := st
    obtain ⟨f0, f1, f2, f3, f4, f5⟩ := hf it (by simp)
    have hx : x.cps[i]? = none := Array.getElem?_eq_none hg
    have hT : s.TypeIs (.ref e) "enumerate" := ⟨_, he, rfl⟩
    have fin : ∀ h', Heap.ExtBut it s.heap h' → _ := fun h' eb => (⟨rfl, I.turned (t' := s.toks) (fun b o hb q => eb b o hb q) f0 f1 f3 f4 f5⟩ : (none : Option Value) = none ∧ Inv X pins σ H { s with heap := h', toks := s.toks })
    unfold pyNext
    refine wpAny_bind (wpAny_attempt (wpAny_callSpecial?_slot (name := Str.ofString "__next__") hT F.slot_enumerate_next
      (wpAny_call_entry F.slot_enumerate_next hT F.entry_enumerate_next ?_ (F.args_enumerate_next_1 _))))
    show wpAny _ _ (field (.ref e) 2 >>= _) _ _ _
    refine wpAny_bind (wpAny_field he rfl (x := .ref it) rfl ?_)
    rcases hty with z | z
    · rw [z] at hit
      refine wpAny_bind (wpAny_nextOf_ascii_end (A := X.A.in1) (I.ok.hd hc) hit hx fun h' x' he' hx' => ?_)
      obtain ⟨o, ho, hcl⟩ := hx'
      refine wpAny_bind (wpAny_isInstance (T := "StopIteration") (b := true) ⟨o, ho, hcl⟩ isSubtype_stop ?_)
      exact wpAny_pure (fin _ he')
    · rw [z] at hit
      refine wpAny_bind (wpAny_nextOf_wide_end (A := X.A.in1) (I.ok.hd hc) hit hx fun h' x' he' hx' => ?_)
      obtain ⟨o, ho, hcl⟩ := hx'
      refine wpAny_bind (wpAny_isInstance (T := "StopIteration") (b := true) ⟨o, ho, hcl⟩ isSubtype_stop ?_)
      exact wpAny_pure (fin _ he')
  self := fun A i s Q E st h => let ⟨⟨_, he⟩, _⟩ := st; wpAny_pyIter_enum he h
def iEnumA (K : PySem.W.Frag) (ta : TA) : TI := fun σ H R => ta σ H fun vs H1 => (∃ a xs, vs = [.ref a] ∧ SqL K H1 a xs ∧ R (Ite K a) H1) ∨ ∃ x, vs = [.str x] ∧ R (IteS x) H1
theorem pi_enumA {X : Cx} {e : Expr} {ta : TA} {p pos tpos : Pos} {elts : List Expr} {kk : Nat} (hg : Gl X "enumerate") (hm : X.mg "enumerate" = none) (ha : PA X [e] ta) (hs : starEach [e] X.env = [(false, eval e X.env)] := by rfl) :
    PI X (.Tuple elts kk tpos) (.Call (.Name "enumerate" p) [e] [] pos) (iEnumA X.K ta) := by
  refine ⟨fun pins s σ H R I h => ?_⟩
  refine Call_ (ld_blt I hg hm boot_enumerate (PyProof.Rows.callWith_type1 (thn (ha.run pos pins s σ H _ I h) fun us s1 ⟨vs, H1, I1, r1, q1⟩ => ?_) hs rfl))
  have fre : ∀ b, b ∈ [s1.heap.objs.size + 1, s1.heap.objs.size] → s1.heap.objs.size ≤ b := fun b hb => by
    have e' : b = s1.heap.objs.size + 1 ∨ b = s1.heap.objs.size := by simpa using hb
    rcases e' with z | z
    · rw [z]; exact Nat.le_add_right _ _
    · rw [z]; exact Nat.le_refl _
  rcases q1 with ⟨a, xs, ex, hq, q⟩ | ⟨x, ex, q⟩
  · subst ex
    cases r1 with
    | cons r rr =>
      cases rr
      cases r
      obtain ⟨its, rv, p', hz⟩ := I1.list hq
      refine call_enumerate_list p'.isList fun h' he hit hsz hk => wpAny_pyIter_enum he ?_
      have I2 : Inv X pins σ H1 { s1 with heap := h' } := I1.kept (t' := s1.toks) hk
      exact ⟨s1.heap.objs.size + 1, [s1.heap.objs.size + 1, s1.heap.objs.size], _, _, H1, rfl, I2, turn_enum a (s1.heap.objs.size + 1) s1.heap.objs.size, ⟨⟨.none, he⟩, hit, Nat.succ_ne_self _⟩, fun b hb => I1.fpOk (fre b hb) (I1.hok.fresh (fre b hb)), q⟩
  · subst ex
    cases r1 with
    | cons r rr =>
      cases rr
      obtain ⟨t, rfl⟩ := r
      refine call_enumerate_str fun h' he hit hsz hk => wpAny_pyIter_enum he ?_
      have I2 : Inv X pins σ H1 { s1 with heap := h' } := I1.kept (t' := s1.toks) hk
      have hty : strIterType x = "str_ascii_iterator" ∨ strIterType x = "str_iterator" := by
        unfold strIterType
        split
        · exact .inl rfl
        · exact .inr rfl
      exact ⟨s1.heap.objs.size + 1, [s1.heap.objs.size + 1, s1.heap.objs.size], _, _, H1, rfl, I2, turn_enumS x t (s1.heap.objs.size + 1) s1.heap.objs.size _ hty, ⟨⟨.none, he⟩, hit, Nat.succ_ne_self _⟩, fun b hb => I1.fpOk (fre b hb) (I1.hok.fresh (fre b hb)), q⟩
end
end VL

set_option Elab.async false
set_option linter.all false
set_option maxRecDepth 100000
/-! VL8: what is walked; for, while; list comprehensions. -/
namespace VL
open PySem PySem.Spec PyProof.Rows L2

/-- an iterator yields just these data, while what it leans on stands -/
def Walks (K : PySem.W.Frag) (mg : Str → Option Value) (J : It) (ds : List D) (O : Ft) (H F : Hp) : Prop :=
  ∃ G : Ft → Hp → Hp → Prop, G O H F ∧ (∀ O1 H1 F1 O2 H2 F2, G O1 H1 F1 → Evo O1 H1 F1 O2 H2 F2 → G O2 H2 F2) ∧
    (∀ i O H F, G O H F → Same F H → (∀ d, ds[i]? = some d → J.go i H ∧ ∀ x H', J.yld i H x H' → ∃ F', Grow H F H' F' ∧ rep K mg F' d x) ∧ (i = ds.length → J.stop i H))
abbrev Eit := Env → Res (List D × Env)
section
variable (X : Cx) (Γ Γ' : Gm) (W : WE)
def trI (f : Eit) : TI := fun σ H R => ∃ ρ F, Rel X.K X.mg Γ ρ σ H F ∧ (f ρ).sat
  (fun r => ∀ J H' F', Evo (Own Γ ρ σ) H F (Own Γ' r.2 σ) H' F' → Rel X.K X.mg Γ' r.2 σ H' F' → Walks X.K X.mg J r.1 (Own Γ' r.2 σ) H' F' → R J H') (exW W Γ ρ σ H F)
abbrev VI (tg iter : Expr) (f : Eit) : Prop := PI X tg iter (trI X Γ Γ' W f)
end
section
variable {K : PySem.W.Frag} {mg : Str → Option Value} {O O' : Ft} {H F H' F' : Hp} {l : List D} {p : Addr} {vs : List V}
theorem walks_list (hH : H p = some (.lst vs)) (hr : reps K mg F l vs) (hf : F p = some (.lst vs) ∨ (F p = none ∧ ¬ O.o p)) : Walks K mg (Itl K p) l O H F := by
  refine ⟨fun O H F => H p = some (.lst vs) ∧ reps K mg F l vs ∧ (F p = some (.lst vs) ∨ (F p = none ∧ ¬ O.o p)), ⟨hH, hr, hf⟩, ?_, ?_⟩
  · rintro O1 H1 F1 O2 H2 F2 ⟨g1, g2, g3⟩ e
    rcases g3 with g3 | ⟨g3, g4⟩
    · exact ⟨e.sh _ _ (e.sf _ _ g3), reps_mono e.sf g2, .inl (e.sf _ _ g3)⟩
    · obtain ⟨k1, k2⟩ := e.kp p _ g1 g3 g4
      refine ⟨k1, reps_mono e.sf g2, .inr ⟨k2, fun z => ?_⟩⟩
      rcases e.ow p z with w | w
      · exact g4 w
      · rw [g1] at w; cases w
  · rintro i O H F ⟨g1, g2, g3⟩ s
    refine ⟨fun d hd => ?_, fun e => ⟨vs, .of g1, by rw [reps_length g2, e]; exact Nat.le_refl _⟩⟩
    obtain ⟨v, h1, h2⟩ := reps_get g2 hd
    refine ⟨⟨vs, v, .of g1, h1⟩, fun x H' ⟨e, y⟩ => ?_⟩
    subst e
    have := y vs (.of g1)
    rw [h1] at this; cases this
    exact ⟨F, Grow.refl s, h2⟩
theorem walks_tup (hH : SqT K F p vs) (hr : reps K mg F l vs) (s : Same F H) : Walks K mg (Itt K p) l O H F := by
  refine ⟨fun O H F => SqT K F p vs ∧ reps K mg F l vs, ⟨hH, hr⟩, ?_, ?_⟩
  · rintro O1 H1 F1 O2 H2 F2 ⟨g1, g2⟩ e
    exact ⟨Same.sqT e.sf g1, reps_mono e.sf g2⟩
  · rintro i O H F ⟨g1, g2⟩ s
    have g1' := Same.sqT s g1
    refine ⟨fun d hd => ?_, fun e => ⟨vs, g1', by rw [reps_length g2, e]; exact Nat.le_refl _⟩⟩
    obtain ⟨v, h1, h2⟩ := reps_get g2 hd
    refine ⟨⟨vs, v, g1', h1⟩, fun x H' ⟨e, y⟩ => ?_⟩
    subst e
    have := y vs g1'
    rw [h1] at this; cases this
    exact ⟨F, Grow.refl s, h2⟩
theorem walks_str {z : List Nat} : Walks K mg (Its ⟨z.toArray⟩) (z.map fun c => D.str [c]) O H F := by
  refine ⟨fun _ _ _ => True, trivial, fun _ _ _ _ _ _ _ _ => trivial, fun i O H F _ s => ⟨fun d hd => ?_, fun e => by
    show z.toArray.size ≤ i
    rw [e, List.length_map, List.size_toArray]
    exact Nat.le_refl _⟩⟩
  rw [List.getElem?_map] at hd
  cases hc : z[i]? with
  | none => rw [hc] at hd; cases hd
  | some c =>
    rw [hc] at hd
    cases hd
    have hi : i < z.length := by
      rcases Nat.lt_or_ge i z.length with q | q
      · exact q
      · rw [List.getElem?_eq_none q] at hc; cases hc
    refine ⟨by show i < z.toArray.size; simpa using hi, fun x H' ⟨e, c', h1, h2⟩ => ?_⟩
    subst e h2
    refine ⟨F, Grow.refl s, ?_⟩
    have h1 : z.toArray[i]? = some c' := h1
    have : c' = c := by
      have h3 : z[i]? = some c' := by simpa using h1
      rw [hc] at h3; cases h3; rfl
    subst this
    simp only [rep]
theorem walks_range {lo : Int} {n : Nat} : Walks K mg (Itr lo n) ((List.range n).map fun k => D.int (lo + (k : Nat))) O H F := by
  refine ⟨fun _ _ _ => True, trivial, fun _ _ _ _ _ _ _ _ => trivial, fun i O H F _ s => ⟨fun d hd => ?_, fun e => by
    show n ≤ i
    rw [e, List.length_map, List.length_range]
    exact Nat.le_refl _⟩⟩
  rw [List.getElem?_map] at hd
  rcases Nat.lt_or_ge i n with hi | hi
  · rw [List.getElem?_range hi] at hd
    cases hd
    refine ⟨hi, fun x H' ⟨e, e2⟩ => ?_⟩
    subst e e2
    exact ⟨F, Grow.refl s, by simp only [rep]⟩
  · rw [List.getElem?_eq_none (by simpa using hi)] at hd; cases hd
theorem walks_rangeC {lo c : Int} {n : Nat} : Walks K mg (Itc lo c n) ((List.range n).map fun k => D.int (lo + (k : Nat) * c)) O H F := by
  refine ⟨fun _ _ _ => True, trivial, fun _ _ _ _ _ _ _ _ => trivial, fun i O H F _ s => ⟨fun d hd => ?_, fun e => by
    show n ≤ i
    rw [e, List.length_map, List.length_range]
    exact Nat.le_refl _⟩⟩
  rw [List.getElem?_map] at hd
  rcases Nat.lt_or_ge i n with hi | hi
  · rw [List.getElem?_range hi] at hd
    cases hd
    refine ⟨hi, fun x H' ⟨e, e2⟩ => ?_⟩
    subst e e2
    exact ⟨F, Grow.refl s, by simp only [rep]⟩
  · rw [List.getElem?_eq_none (by simpa using hi)] at hd; cases hd
def enumD : Nat → List D → List D
  | _, [] => []
  | k, d :: ds => .tup [.int (k : Nat), d] :: enumD (k + 1) ds
theorem enumD_get : ∀ (l : List D) (k i : Nat), (enumD k l)[i]? = (l[i]?).map fun d => .tup [.int ((k + i : Nat) : Int), d]
  | [], _, _ => by simp [enumD]
  | d :: l, k, 0 => by simp [enumD]
  | d :: l, k, i + 1 => by
    simp only [enumD, List.getElem?_cons_succ]
    rw [enumD_get l (k + 1) i]
    have : k + 1 + i = k + (i + 1) := by omega
    rw [this]
theorem enumD_length : ∀ (l : List D) (k : Nat), (enumD k l).length = l.length
  | [], _ => rfl
  | d :: l, k => by simp only [enumD, List.length_cons, enumD_length l]
theorem walks_enumS {z : List Nat} : Walks K mg (IteS ⟨z.toArray⟩) (enumD 0 (z.map fun c => D.str [c])) O H F := by
  refine ⟨fun _ _ _ => True, trivial, fun _ _ _ _ _ _ _ _ => trivial, fun i O H F _ s => ⟨fun d hd => ?_, fun e => by
    show z.toArray.size ≤ i
    rw [e, enumD_length, List.length_map, List.size_toArray]
    exact Nat.le_refl _⟩⟩
  rw [enumD_get, List.getElem?_map] at hd
  cases hc : z[i]? with
  | none => rw [hc] at hd; cases hd
  | some c =>
    rw [hc] at hd
    cases hd
    have hi : i < z.length := by
      rcases Nat.lt_or_ge i z.length with q | q
      · exact q
      · rw [List.getElem?_eq_none q] at hc; cases hc
    refine ⟨by show i < z.toArray.size; simpa using hi, fun x H' ⟨T, c', e1, e2, e3, e4⟩ => ?_⟩
    subst e1 e3
    have : z[i]? = some c' := by simpa using e4
    rw [hc] at this; cases this
    have r2 : reps K mg F [.int ((0 + i : Nat) : Int), .str [c]] [.int ((i : Nat) : Int), .str ⟨#[c]⟩] := reps_cons (by simp only [rep, Nat.zero_add]) (reps_one (by simp only [rep]))
    exact ⟨_, Grow.newF s e2, rep_tup_new e2 s r2⟩
theorem walks_enum (hH : H p = some (.lst vs)) (hr : reps K mg F l vs) (hf : F p = some (.lst vs) ∨ (F p = none ∧ ¬ O.o p)) : Walks K mg (Ite K p) (enumD 0 l) O H F := by
  obtain ⟨G, g0, gs, gt⟩ := walks_list (O := O) hH hr hf
  refine ⟨fun O H F => H p = some (.lst vs) ∧ reps K mg F l vs ∧ (F p = some (.lst vs) ∨ (F p = none ∧ ¬ O.o p)), ⟨hH, hr, hf⟩, ?_, ?_⟩
  · rintro O1 H1 F1 O2 H2 F2 ⟨g1, g2, g3⟩ e
    rcases g3 with g3 | ⟨g3, g4⟩
    · exact ⟨e.sh _ _ (e.sf _ _ g3), reps_mono e.sf g2, .inl (e.sf _ _ g3)⟩
    · obtain ⟨k1, k2⟩ := e.kp p _ g1 g3 g4
      refine ⟨k1, reps_mono e.sf g2, .inr ⟨k2, fun z => ?_⟩⟩
      rcases e.ow p z with w | w
      · exact g4 w
      · rw [g1] at w; cases w
  · rintro i O H F ⟨g1, g2, g3⟩ s
    refine ⟨fun d hd => ?_, fun e => ⟨vs, .of g1, by rw [reps_length g2, e, enumD_length]; exact Nat.le_refl _⟩⟩
    rw [enumD_get] at hd
    cases hc : l[i]? with
    | none => rw [hc] at hd; cases hd
    | some c =>
      rw [hc] at hd; cases hd
      obtain ⟨v, h1, h2⟩ := reps_get g2 hc
      refine ⟨⟨vs, v, .of g1, h1⟩, fun x H' ⟨T, y, e1, e2, e3, e4⟩ => ?_⟩
      subst e1 e3
      have := e4 vs (.of g1)
      rw [h1] at this; cases this
      have r2 : reps K mg F [.int ((0 + i : Nat) : Int), c] [.int ((i : Nat) : Int), v] := reps_cons (by simp only [rep, Nat.zero_add]) (reps_one h2)
      exact ⟨_, Grow.newF s e2, rep_tup_new e2 s r2⟩
end

/-- the items of a datum -/
def itD : D → Option (List D)
  | .lst l => some l
  | .tup l => some l
  | .str l => some (l.map fun c => .str [c])
  | _ => none
def eIt (f : Ev) : Eit := fun ρ => (f ρ).bind fun r => (opt (itD r.1)).bind fun l => .ok (l, r.2)
section
variable {X : Cx} {Γ Γ' Γ1 Γ2 Γ3 : Gm} {S : SC} {W : WE} {st : Stmt} {sts body rest : List Stmt} {tg iter o e a b c : Expr} {es : List Expr} {p pos pos' apos cpos tpos : Pos} {m : Md} {ev fi fe : Ev} {et : Et} {as : List Arg} {i : Nat}
theorem piImp {t t' : TI} (h : PI X tg iter t) (i : ∀ σ H R, t' σ H R → t σ H R) : PI X tg iter t' := ⟨fun pins s σ H R I q => h.run pins s σ H R I (i σ H R q)⟩
theorem pi_or {t t' : TI} (h : PI X tg iter t) (h' : PI X tg iter t') : PI X tg iter (fun σ H R => t σ H R ∨ t' σ H R) :=
  ⟨fun pins s σ H R I q => by
    rcases q with q | q
    · exact h.run pins s σ H R I q
    · exact h'.run pins s σ H R I q⟩
/-- a slot that is read only, walked -/
theorem vb_brw {i : Nat} (h : PE X e (tVar i)) (hm : Γ[i]? = some .brw) : VB X Γ Γ W e (.ex (eVar i)) :=
  peImp h fun σ H Q ⟨ρ, F, r, q⟩ => by
    obtain ⟨d, e2, q⟩ := gv_sat (Res.sat_bind.mp (Res.sat_bind.mp q))
    obtain ⟨v, h1, h2⟩ := r.slot i _ d hm e2
    exact ⟨v, h1, q v H F (Evo.refl r.sub) r h2⟩
theorem vi_any (h : VB X Γ Γ' W iter (.ex ev)) : VI X Γ Γ' W tg iter (eIt ev) :=
  piImp (pi_or (pi_list h) (pi_or (pi_tup h) (pi_str h))) fun σ H R ⟨ρ, F, r, q⟩ => by
    have q := Res.sat_bind.mp q
    -- the three kinds
    have mk : ∀ {k : V → Hp → Prop}, (∀ v H' F' d ρ', ev ρ = .ok (d, ρ') → Evo (Own Γ ρ σ) H F (Own Γ' ρ' σ) H' F' → Rel X.K X.mg Γ' ρ' σ H' F' → RdN X.K X.mg (Own Γ' ρ' σ) H' F' v d → k v H') → (∀ x, ev ρ = .exn x → exW W Γ ρ σ H F x) → (ev ρ ≠ .bad) → trB X Γ Γ' W (.ex ev) σ H k := fun {k} hk hx hb =>
      ⟨ρ, F, r, Res.sat_bind.mpr (by
        cases he : ev ρ with
        | bad => exact absurd he hb
        | exn x => exact hx x he
        | ok z => exact fun v H' F' e1 r1 b1 => hk v H' F' z.1 z.2 he e1 r1 b1)⟩
    cases he : ev ρ with
    | bad => rw [he] at q; exact q.elim
    | exn x =>
      rw [he] at q
      exact .inl (mk (k := _) (fun v H' F' d ρ' h => by rw [he] at h; cases h) (fun y h => by rw [he] at h; cases h; exact q) (by rw [he]; intro h; cases h))
    | ok z =>
      rw [he] at q
      obtain ⟨ds, hds, q⟩ := opt_sat (Res.sat_bind.mp q)
      have nx : ∀ x, ev ρ = .exn x → exW W Γ ρ σ H F x := fun x h => by rw [he] at h; cases h
      have nb : ev ρ ≠ .bad := by rw [he]; intro h; cases h
      obtain ⟨d, ρ'⟩ := z
      cases d <;> first | (cases hds; done) | skip
      · cases hds
        refine .inr (.inr (mk (fun v H' F' d ρ' h e1 r1 b1 => ?_) nx nb))
        rw [he] at h; cases h
        have b1 := (RdN.rdd b1).str
        subst b1
        exact ⟨_, rfl, q _ H' F' e1 r1 walks_str⟩
      · cases hds
        refine .inr (.inl (mk (fun v H' F' d ρ' h e1 r1 b1 => ?_) nx nb))
        rw [he] at h; cases h
        obtain ⟨p, vs, rfl, h1, h2⟩ := (RdN.rdd b1).tup
        exact ⟨p, rfl, ⟨vs, Same.sqT r1.sub h1⟩, q _ H' F' e1 r1 (walks_tup h1 h2 r1.sub)⟩
      · cases hds
        refine .inl (mk (fun v H' F' d ρ' h e1 r1 b1 => ?_) nx nb)
        rw [he] at h; cases h
        unfold RdN at b1
        rw [if_pos (show cellD (.lst _) = true from rfl)] at b1
        obtain ⟨p, ob, rfl, h1, ⟨vs, rfl, h2⟩, h3⟩ := b1
        exact ⟨p, rfl, ⟨vs, .of h1⟩, q _ H' F' e1 r1 (walks_list h1 h2 h3)⟩
/-- range(..) -/
def rB (j : Int) : Bool := Nat.ble j.natAbs 4611686018427387903
theorem rB_iff {j : Int} : rB j = true ↔ j < 4611686018427387904 ∧ -4611686018427387904 < j := by
  unfold rB
  constructor
  · intro h; have := Nat.le_of_ble_eq_true h; omega
  · intro h; exact Nat.ble_eq_true_of_le (by omega)
def rngOf : List D → Option (List D)
  | [.int j] => if rB j = true then some ((List.range j.toNat).map fun k => D.int (0 + (k : Nat))) else none
  | [.int i, .int j] => if (rB j && rB i) = true then some ((List.range (j - i).toNat).map fun k => D.int (i + (k : Nat))) else none
  | [.int i, .int j, .int c] => if (decide (c = -1) && (rB j && rB i)) = true then some ((List.range (i - j).toNat).map fun k => D.int (i + (k : Nat) * -1)) else none
  | _ => none
def eRng (as : List Arg) : Eit := fun ρ => (Arg.runs as ρ).bind fun p => (Arg.fins as p.1 p.2).bind fun ds => (opt (rngOf ds)).bind fun l => .ok (l, p.2)
theorem rng_tr {σ : St} {H : Hp} {R : It → Hp → Prop} (h : trI X Γ Γ' W (eRng as) σ H R) : trA X Γ Γ' W as σ H fun vs H1 => ∃ ds l, Rdds X.K X.mg H1 H1 vs ds ∧ rngOf ds = some l ∧ ∀ J, (∀ O F, Walks X.K X.mg J l O H1 F) → R J H1 := by
  obtain ⟨ρ, F, rl, q⟩ := h
  refine ⟨ρ, F, rl, Res.sat_imp (Res.sat_bind.mp q) (fun z _ q vs H1 F1 e1 r1 b1 => ?_) fun _ h => h⟩
  obtain ⟨ds, hds, q⟩ := fins_sat q
  obtain ⟨l, hd, q⟩ := opt_sat (Res.sat_bind.mp q)
  have rd := (b1.fin r1 hds).rdds r1.sub
  refine ⟨ds, l, ?_, hd, fun J w => q J H1 F1 e1 r1 (w _ _)⟩
  have up : ∀ {v : V} {i : Int}, Rdd X.K X.mg H1 F1 v (.int i) → Rdd X.K X.mg H1 H1 v (.int i) := fun {v i} h => by
    rw [h.int]; exact rep.rdd (Same.refl _) (by simp only [rep])
  unfold rngOf at hd
  split at hd
  · obtain ⟨v, w, e1, h1, e2⟩ := rd; exact ⟨v, w, e1, up h1, e2⟩
  · obtain ⟨v, w, e1, h1, v2, w2, e2, h2, e3⟩ := rd; exact ⟨v, w, e1, up h1, v2, w2, e2, up h2, e3⟩
  · obtain ⟨v, w, e1, h1, v2, w2, e2, h2, v3, w3, e3, h3, e4⟩ := rd; exact ⟨v, w, e1, up h1, v2, w2, e2, up h2, v3, w3, e3, up h3, e4⟩
  · cases hd
theorem trA_mono {σ : St} {H : Hp} {Q Q' : List V → Hp → Prop} (h : trA X Γ Γ' W as σ H Q) (i : ∀ vs H1, Q vs H1 → Q' vs H1) : trA X Γ Γ' W as σ H Q' := by
  obtain ⟨ρ, F, r, q⟩ := h
  exact ⟨ρ, F, r, Res.sat_imp q (fun z _ q vs H' F' e1 r1 b1 => i _ _ (q vs H' F' e1 r1 b1)) fun _ h => h⟩
theorem vi_rng1 {ar : Arg} (hg : Gl X "range") (hm : X.mg "range" = none) (ha : VA X Γ Γ' W [a] [ar]) (hs : starEach [a] X.env = [(false, eval a X.env)] := by rfl) : VI X Γ Γ' W tg (.Call (.Name "range" p) [a] [] pos) (eRng [ar]) :=
  piImp (pi_range1 hg hm ha hs) fun σ H R h => by
    obtain ⟨ρ, F, rl, q⟩ := h
    refine ⟨ρ, F, rl, Res.sat_imp (Res.sat_bind.mp q) (fun z _ q vs H1 F1 e1 r1 b1 => ?_) fun _ h => h⟩
    obtain ⟨ds, hds, q⟩ := fins_sat q
    obtain ⟨l, hd, q⟩ := opt_sat (Res.sat_bind.mp q)
    obtain ⟨v, w, d, e, rfl, rfl, h3, rfl, rfl⟩ := b1.fin r1 hds
    have h3 := h3.rdd r1.sub
    unfold rngOf at hd
    cases d <;> first | (cases hd; done) | skip
    dsimp only at hd
    split at hd <;> cases hd
    rename_i hb
    have hb := rB_iff.mp hb
    rw [h3.int]
    exact ⟨_, rfl, by omega, by omega, q _ H1 F1 e1 r1 walks_range⟩
theorem vi_rng2 {ar br : Arg} (hg : Gl X "range") (hm : X.mg "range" = none) (ha : VA X Γ Γ' W [a, b] [ar, br]) (hs : starEach [a, b] X.env = [(false, eval a X.env), (false, eval b X.env)] := by rfl) (hs2 : starEach [b] X.env = [(false, eval b X.env)] := by rfl) : VI X Γ Γ' W tg (.Call (.Name "range" p) [a, b] [] pos) (eRng [ar, br]) :=
  piImp (pi_range2 hg hm ha hs hs2) fun σ H R h => by
    obtain ⟨ρ, F, rl, q⟩ := h
    refine ⟨ρ, F, rl, Res.sat_imp (Res.sat_bind.mp q) (fun z _ q vs H1 F1 e1 r1 b1 => ?_) fun _ h => h⟩
    obtain ⟨ds, hds, q⟩ := fins_sat q
    obtain ⟨l, hd, q⟩ := opt_sat (Res.sat_bind.mp q)
    obtain ⟨v, w, d, e, rfl, rfl, h3, v2, w2, d2, e2, rfl, rfl, h4, rfl, rfl⟩ := b1.fin r1 hds
    have h3 := h3.rdd r1.sub
    have h4 := h4.rdd r1.sub
    unfold rngOf at hd
    cases d <;> first | (cases hd; done) | skip
    cases d2 <;> first | (cases hd; done) | skip
    dsimp only at hd
    split at hd <;> cases hd
    rename_i hb
    rw [Bool.and_eq_true] at hb
    have hb1 := rB_iff.mp hb.1
    have hb2 := rB_iff.mp hb.2
    rw [h3.int, h4.int]
    exact ⟨_, _, rfl, ⟨by omega, by omega, by omega, by omega⟩, q _ H1 F1 e1 r1 walks_range⟩
theorem vi_rng3 {ar br cr : Arg} (hp : PI X tg iter (iRng3 (trA X Γ Γ' W [ar, br, cr]))) : VI X Γ Γ' W tg iter (eRng [ar, br, cr]) :=
  piImp hp fun σ H R h => by
    obtain ⟨ρ, F, rl, q⟩ := h
    refine ⟨ρ, F, rl, Res.sat_imp (Res.sat_bind.mp q) (fun z _ q vs H1 F1 e1 r1 b1 => ?_) fun _ h => h⟩
    obtain ⟨ds, hds, q⟩ := fins_sat q
    obtain ⟨l, hd, q⟩ := opt_sat (Res.sat_bind.mp q)
    obtain ⟨v, w, d, e, rfl, rfl, h3, v2, w2, d2, e2, rfl, rfl, h4, v3, w3, d3, e3, rfl, rfl, h5, rfl, rfl⟩ := b1.fin r1 hds
    have h3 := h3.rdd r1.sub
    have h4 := h4.rdd r1.sub
    have h5 := h5.rdd r1.sub
    unfold rngOf at hd
    cases d <;> first | (cases hd; done) | skip
    cases d2 <;> first | (cases hd; done) | skip
    cases d3 <;> first | (cases hd; done) | skip
    dsimp only at hd
    split at hd <;> cases hd
    rename_i hb
    rw [Bool.and_eq_true, Bool.and_eq_true, decide_eq_true_eq] at hb
    have hb1 := rB_iff.mp hb.2.1
    have hb2 := rB_iff.mp hb.2.2
    rw [h3.int, h4.int, h5.int, hb.1]
    exact ⟨_, _, _, _, rfl, RgC.neg (by omega) (by omega) (by omega) (by omega), q _ H1 F1 e1 r1 walks_rangeC⟩
/-- enumerate(list) -/
def eEnum (f : Ev) : Eit := fun ρ => (f ρ).bind fun r => match r.1 with
  | .lst l => .ok (enumD 0 l, r.2)
  | .str l => .ok (enumD 0 (l.map fun c => .str [c]), r.2)
  | _ => .bad
def trX (X : Cx) (Γ Γ' : Gm) (W : WE) (f : Ev) : TA := fun σ H Q => trB X Γ Γ' W (.ex f) σ H fun v H1 => Q [v] H1
theorem pa_one (h : VB X Γ Γ' W a (.ex ev)) (hs : starEach [a] X.env = (false, eval a X.env) :: starEach [] X.env := by rfl) : PA X [a] (trX X Γ Γ' W ev) :=
  paImp (pa_cons h pa_nil hs) fun σ H Q h => h
theorem vi_enum {elts : List Expr} {kk : Nat} (hp : PI X tg iter (iEnumA X.K (trX X Γ Γ' W ev))) : VI X Γ Γ' W tg iter (eEnum ev) :=
  piImp hp fun σ H R ⟨ρ, F, r, q⟩ => ⟨ρ, F, r, Res.sat_bind.mpr (Res.sat_imp (Res.sat_bind.mp q) (fun z _ q v H1 F1 e1 r1 b1 => by
    cases hz : z.1 <;> rw [hz] at q <;> first | exact q.elim | skip
    · have b1 : RdN X.K X.mg (Own Γ' z.2 σ) H1 F1 v z.1 := b1
      rw [hz] at b1
      unfold RdN at b1
      rw [if_neg (show ¬ cellD (.str _) = true from fun h => nomatch h)] at b1
      simp only [rep] at b1
      subst b1
      exact .inr ⟨_, rfl, q _ H1 F1 e1 r1 walks_enumS⟩
    · have b1 : RdN X.K X.mg (Own Γ' z.2 σ) H1 F1 v z.1 := b1
      rw [hz] at b1
      unfold RdN at b1
      rw [if_pos (show cellD (.lst _) = true from rfl)] at b1
      obtain ⟨p, ob, rfl, h1, ⟨vs, rfl, h2⟩, h3⟩ := b1
      exact .inl ⟨p, vs, rfl, .of h1, q _ H1 F1 e1 r1 (walks_enum h1 h2 h3)⟩) fun _ h => h)⟩

/-! ### for -/
def forL (tg : Tg) (body : Es) : List D → Env → Res Fl
  | [], ρ => .ok (.next ρ)
  | d :: ds, ρ => (opt (bindT tg d ρ)).bind fun ρ1 => (body ρ1).bind fun fl => match fl with
    | .next ρ2 => forL tg body ds ρ2
    | .cont ρ2 => forL tg body ds ρ2
    | .brk ρ2 => .ok (.next ρ2)
    | .ret d ρ2 => .ok (.ret d ρ2)
def sFor (it : Eit) (tg : Tg) (body : Es) : Es := fun ρ => (it ρ).bind fun p => forL tg body p.1 p.2
def SC.loop (S : SC) (Γ : Gm) : SC := { S with ΓL := Γ }
theorem vs_for {t : Tg} {f : Eit} {eb : Es} (hp : PassesOwn (model X.prog X.w) X.A X.env X.xe) (hc : X.calm = true) (hi : VI X Γ Γ1 W tg iter f) (hg : VG X Γ1 S.As tg t) (hb : VSs X Γ1 Γ1 (S.loop Γ1) W body eb) (hs : ∀ x, foldedSetIterable iter X.env x = pure x := by intro _; rfl) :
    VS X Γ Γ1 S W (.For tg iter body [] pos) (sFor f t eb) :=
  psImp (ps_for hp hc hi hg hb hs) fun D σ H ⟨ρ, F, r, q⟩ => ⟨ρ, F, r, Res.sat_imp (Res.sat_bind.mp q) (fun z _ q J H1 F1 e1 r1 wk => by
    obtain ⟨G, g0, gs, gt⟩ := wk
    refine ⟨fun i m σ' H' => m = z.1.length - i ∧ i ≤ z.1.length ∧ ∃ ρ' F', Rel X.K X.mg Γ1 ρ' σ' H' F' ∧ G (Own Γ1 ρ' σ') H' F' ∧ Evo (Own Γ ρ σ) H F (Own Γ1 ρ' σ') H' F' ∧ Keep S.As σ σ' ∧ (forL t eb (z.1.drop i) ρ').sat (okS X Γ Γ1 S D ρ σ H F) (exWS W Γ S.As ρ σ H F),
      ⟨_, rfl, Nat.zero_le _, z.2, F1, r1, g0, e1, Keep.refl, by simpa using q⟩, ?_⟩
    rintro i m σ' H' ⟨rfl, hi, ρ', F', r2, g2, e2, k2, q2⟩
    obtain ⟨t1, t2⟩ := gt i _ H' F' g2 r2.sub
    rcases Nat.lt_or_ge i z.1.length with hl | hl
    · obtain ⟨d, hd⟩ : ∃ d, z.1[i]? = some d := ⟨_, List.getElem?_eq_getElem hl⟩
      obtain ⟨go, yl⟩ := t1 d hd
      have dr : z.1.drop i = d :: z.1.drop (i + 1) := by
        rw [List.drop_eq_getElem_cons hl]
        rw [List.getElem?_eq_getElem hl] at hd
        cases hd; rfl
      rw [dr] at q2
      obtain ⟨ρ3, hb3, q3⟩ := opt_sat (Res.sat_bind.mp q2)
      refine .inr ⟨go, fun σ3 H3 => ∃ ρ4 F4, Rel X.K X.mg Γ1 ρ4 σ3 H3 F4 ∧ G (Own Γ1 ρ4 σ3) H3 F4 ∧ Evo (Own Γ ρ σ) H F (Own Γ1 ρ4 σ3) H3 F4 ∧ Keep S.As σ σ3 ∧ (forL t eb (z.1.drop (i + 1)) ρ4).sat (okS X Γ Γ1 S D ρ σ H F) (exWS W Γ S.As ρ σ H F), fun σ3 H3 ⟨ρ4, F4, a1, a2, a3, a4, a5⟩ => ⟨z.1.length - (i + 1), by omega, rfl, hl, ρ4, F4, a1, a2, a3, a4, a5⟩, fun x H3 y => ?_⟩
      obtain ⟨F3, gr, rx⟩ := yl x H3 y
      refine ⟨ρ', F3, d, ρ3, r2.grow gr, rx, hb3, fun σ4 ⟨m1, m2, m3⟩ => ⟨ρ3, F3, m1, Res.sat_imp (Res.sat_bind.mp q3) (fun fl _ q4 => ?_) fun _ h => h.evo (e2.trans (gr.evo.trans m2)) (k2.trans m3)⟩⟩
      have ee := e2.trans (gr.evo.trans m2)
      have kk := k2.trans m3
      have g3 := gs _ _ _ _ _ _ g2 (gr.evo.trans m2)
      cases fl with
      | next ρ5 => exact fun σ5 H5 F5 e5 k5 r5 => ⟨ρ5, F5, r5, gs _ _ _ _ _ _ g3 e5, ee.trans e5, kk.trans k5, q4⟩
      | cont ρ5 => exact fun σ5 H5 F5 e5 k5 r5 => ⟨ρ5, F5, r5, gs _ _ _ _ _ _ g3 e5, ee.trans e5, kk.trans k5, q4⟩
      | brk ρ5 => exact fun σ5 H5 F5 e5 k5 r5 => q4 σ5 H5 F5 (ee.trans e5) (kk.trans k5) r5
      | ret d5 ρ5 => exact fun v σ5 H5 F5 Γr e5 r5 hi5 rv => q4 v σ5 H5 F5 Γr (ee.trans e5) r5 hi5 (rv.evo ee)
    · have e : i = z.1.length := by omega
      refine .inl ⟨t2 e, ?_⟩
      rw [e, List.drop_length] at q2
      exact q2 σ' H' F' e2 k2 r2) fun _ h => h.ex⟩

/-! ### while -/
def whileL (t : Et) (body : Es) : Nat → Env → Res Fl
  | 0, _ => .bad
  | n + 1, ρ => (t ρ).bind fun r => if r.1 = true then (body r.2).bind fun fl => match fl with
    | .next ρ2 => whileL t body n ρ2
    | .cont ρ2 => whileL t body n ρ2
    | .brk ρ2 => .ok (.next ρ2)
    | .ret d ρ2 => .ok (.ret d ρ2)
  else .ok (.next r.2)
def sWhile (n : Nat) (t : Et) (body : Es) : Es := whileL t body n
theorem vs_while {eb : Es} {n : Nat} (hp : PassesOwn (model X.prog X.w) X.A X.env X.xe) (hc : VT X Γ Γ W c et) (hb : VSs X Γ Γ (S.loop Γ) W body eb) : VS X Γ Γ S W (.While c body [] pos) (sWhile n et eb) :=
  psImp (ps_while hp hc hb) fun D σ H ⟨ρ, F, r, q⟩ => by
    refine ⟨fun m σ' H' => ∃ ρ' F', Rel X.K X.mg Γ ρ' σ' H' F' ∧ Evo (Own Γ ρ σ) H F (Own Γ ρ' σ') H' F' ∧ Keep S.As σ σ' ∧ (whileL et eb m ρ').sat (okS X Γ Γ S D ρ σ H F) (exWS W Γ S.As ρ σ H F), ⟨n, ρ, F, r, Evo.refl r.sub, Keep.refl, q⟩, ?_⟩
    rintro m σ' H' ⟨ρ', F', r2, e2, k2, q2⟩
    cases m with
    | zero => exact q2.elim
    | succ m =>
      refine ⟨ρ', F', r2, Res.sat_imp (Res.sat_bind.mp q2) (fun z _ q3 H3 F3 e3 r3 => ?_) fun _ h => (h.evo e2 k2).ex⟩
      dsimp only
      split
      · rename_i hz
        rw [if_pos hz] at q3
        refine ⟨fun σ4 H4 => ∃ ρ4 F4, Rel X.K X.mg Γ ρ4 σ4 H4 F4 ∧ Evo (Own Γ ρ σ) H F (Own Γ ρ4 σ4) H4 F4 ∧ Keep S.As σ σ4 ∧ (whileL et eb m ρ4).sat (okS X Γ Γ S D ρ σ H F) (exWS W Γ S.As ρ σ H F), fun σ4 H4 h => ⟨m, Nat.lt_succ_self _, h⟩, ?_⟩
        have ee := e2.trans e3
        refine ⟨z.2, F3, r3, Res.sat_imp (Res.sat_bind.mp q3) (fun fl _ q4 => ?_) fun _ h => h.evo ee k2⟩
        cases fl with
        | next ρ5 => exact fun σ5 H5 F5 e5 k5 r5 => ⟨ρ5, F5, r5, ee.trans e5, k2.trans k5, q4⟩
        | cont ρ5 => exact fun σ5 H5 F5 e5 k5 r5 => ⟨ρ5, F5, r5, ee.trans e5, k2.trans k5, q4⟩
        | brk ρ5 => exact fun σ5 H5 F5 e5 k5 r5 => q4 σ5 H5 F5 (ee.trans e5) (k2.trans k5) r5
        | ret d5 ρ5 => exact fun v σ5 H5 F5 Γr e5 r5 hi5 rv => q4 v σ5 H5 F5 Γr (ee.trans e5) r5 hi5 (rv.evo ee)
      · rename_i hz
        rw [if_neg hz] at q3
        exact q3 σ' H3 F3 (e2.trans e3) k2 r3
end
end VL

set_option Elab.async false
set_option linter.all false
set_option maxRecDepth 100000
/-! VL9: list comprehensions. -/
namespace VL
open PySem PySem.Spec PyProof.Rows L2

def noexn {α : Type} : Res α → Res α
  | .ok a => .ok a
  | _ => .bad
@[simp] theorem noexn_ok {α : Type} (a : α) : noexn (.ok a) = .ok a := rfl
theorem noexn_sat {α : Type} {r : Res α} {P : α → Prop} {E E' : Exn → Prop} (h : (noexn r).sat P E) : r.sat P E' := by
  cases r with
  | ok a => exact h
  | exn x => exact h.elim
  | bad => exact h
def WF : WE := fun _ _ _ _ => False
def wipeE (ρ : Env) : List Nat → Env
  | [] => ρ
  | v :: vs => (wipeE ρ vs).set v none
def backE (ρ1 ρ2 : Env) : List Nat → Env
  | [] => ρ2
  | v :: vs => (backE ρ1 ρ2 vs).set v ((ρ1[v]?).getD none)
def lcGo (vs : List Nat) (tg : Tg) (cond : Et) (elt : Ev) : List D → List D → Env → Res (List D × Env)
  | [], acc, ρ => .ok (acc, ρ)
  | d :: ds, acc, ρ => (opt (bindT tg d ρ)).bind fun ρ1 => (noexn (cond ρ1)).bind fun c => if c.1 = true then (noexn (elt c.2)).bind fun r => lcGo vs tg cond elt ds (acc ++ [r.1]) (wipeE r.2 vs) else lcGo vs tg cond elt ds acc (wipeE c.2 vs)
def eLC (it : Eit) (vs : List Nat) (tg : Tg) (cond : Et) (elt : Ev) : Ev := fun ρ => (it ρ).bind fun p => if p.1.length ≤ 16777216 then (lcGo vs tg cond elt p.1 [] (wipeE p.2 vs)).bind fun r => .ok (.lst r.1, backE p.2 r.2 vs) else .bad
def tYesE : Et := fun ρ => .ok (true, ρ)

section
variable {K : PySem.W.Frag} {mg : Str → Option Value} {Γ : Gm} {ρ ρ1 ρ2 : Env} {σ σ' : St} {H F H1 F1 : Hp} {i : Nat} {vs : List Nat}
theorem OwnAt.unset (hm : Γ[i]? = some .fz) {j : Nat} {p : Addr} : OwnAt Γ (ρ.set i none) (σ.set i none) j p ↔ OwnAt Γ ρ σ j p := by
  constructor
  · rintro ⟨m, d, g1, g2, g3, g4, g5⟩
    by_cases e : i = j
    · subst e; rw [hm] at g1; cases g1; cases g2
    · rw [List.getElem?_set_ne e] at g3 g5; exact ⟨m, d, g1, g2, g3, g4, g5⟩
  · rintro ⟨m, d, g1, g2, g3, g4, g5⟩
    by_cases e : i = j
    · subst e; rw [hm] at g1; cases g1; cases g2
    · exact ⟨m, d, g1, g2, by rw [List.getElem?_set_ne e]; exact g3, g4, by rw [List.getElem?_set_ne e]; exact g5⟩
theorem BrwAt.unset (hm : Γ[i]? = some .fz) {j : Nat} {p : Addr} : BrwAt Γ (ρ.set i none) (σ.set i none) j p ↔ BrwAt Γ ρ σ j p := by
  constructor
  · rintro ⟨d, g1, g3, g4, g5⟩
    by_cases e : i = j
    · subst e; rw [hm] at g1; cases g1
    · rw [List.getElem?_set_ne e] at g3 g5; exact ⟨d, g1, g3, g4, g5⟩
  · rintro ⟨d, g1, g3, g4, g5⟩
    by_cases e : i = j
    · subst e; rw [hm] at g1; cases g1
    · exact ⟨d, g1, by rw [List.getElem?_set_ne e]; exact g3, g4, by rw [List.getElem?_set_ne e]; exact g5⟩
theorem Own.unset (hm : Γ[i]? = some .fz) : Own Γ (ρ.set i none) (σ.set i none) = Own Γ ρ σ := by
  unfold Own
  congr 1
  · funext p
    exact propext ⟨fun ⟨j, h⟩ => ⟨j, (OwnAt.unset hm).mp h⟩, fun ⟨j, h⟩ => ⟨j, (OwnAt.unset hm).mpr h⟩⟩
  · funext j p
    exact propext (BrwAt.unset hm)
theorem Rel.unset (r : Rel K mg Γ ρ σ H F) (hm : Γ[i]? = some .fz) : Rel K mg Γ (ρ.set i none) (σ.set i none) H F :=
  ⟨by simp only [List.length_set]; exact r.lr, by simp only [List.length_set]; exact r.lg, fun j m d g1 g2 => by
    by_cases e : i = j
    · subst e
      by_cases hl : i < ρ.length
      · rw [getset hl] at g2; cases g2
      · rw [List.getElem?_eq_none (by simpa using hl)] at g2; cases g2
    · rw [List.getElem?_set_ne e] at g2
      obtain ⟨v, h1, h2⟩ := r.slot j m d g1 g2
      exact ⟨v, by rw [List.getElem?_set_ne e]; exact h1, by rw [Own.unset hm]; exact h2⟩,
    fun a b p ga gb => r.inj a b p ((OwnAt.unset hm).mp ga) ((OwnAt.unset hm).mp gb), r.sub⟩
theorem Rel.wipe (r : Rel K mg Γ ρ σ H F) : ∀ {vs : List Nat}, (∀ v ∈ vs, Γ[v]? = some .fz) → Rel K mg Γ (wipeE ρ vs) (L2.wipe σ vs) H F ∧ Own Γ (wipeE ρ vs) (L2.wipe σ vs) = Own Γ ρ σ
  | [], _ => ⟨r, rfl⟩
  | v :: vs, h => by
    obtain ⟨r1, e1⟩ := r.wipe (vs := vs) fun w hw => h w (List.mem_cons_of_mem _ hw)
    have hv := h v List.mem_cons_self
    exact ⟨r1.unset hv, (Own.unset hv).trans e1⟩
theorem backE_in : ∀ {vs : List Nat} {j : Nat}, j ∈ vs → j < ρ2.length → (backE ρ1 ρ2 vs)[j]? = some ((ρ1[j]?).getD none)
  | [], _, h, _ => by cases h
  | v :: vs, j, h, hl => by
    have len : ∀ vs : List Nat, (backE ρ1 ρ2 vs).length = ρ2.length := fun vs => by
      induction vs with
      | nil => rfl
      | cons w ws ih => simp only [backE, List.length_set, ih]
    simp only [backE]
    by_cases e : v = j
    · subst e; rw [getset (by rw [len]; exact hl)]
    · rw [List.getElem?_set_ne e]
      rcases List.mem_cons.mp h with z | z
      · exact absurd z.symm e
      · exact backE_in z hl
theorem backE_out : ∀ {vs : List Nat} {j : Nat}, j ∉ vs → (backE ρ1 ρ2 vs)[j]? = ρ2[j]?
  | [], _, _ => rfl
  | v :: vs, j, h => by
    simp only [backE]
    simp only [List.mem_cons, not_or] at h
    rw [List.getElem?_set_ne (fun e => h.1 e.symm)]
    exact backE_out h.2
theorem backE_length : ∀ vs : List Nat, (backE ρ1 ρ2 vs).length = ρ2.length := fun vs => by
  induction vs with
  | nil => rfl
  | cons w ws ih => simp only [backE, List.length_set, ih]
theorem back_own (hv : ∀ v ∈ vs, Γ[v]? = some .fz) : Own Γ (backE ρ1 ρ2 vs) σ = Own Γ ρ2 (L2.wipe σ vs) := by
  have key : ∀ {j : Nat} {m : Md}, Γ[j]? = some m → m ≠ .fz → j ∉ vs := fun {j m} h hm hj => by
    rw [hv j hj] at h; cases h; exact hm rfl
  unfold Own
  congr 1
  · funext p
    refine propext ⟨fun ⟨j, m, d, g1, g2, g3, g4, g5⟩ => ?_, fun ⟨j, m, d, g1, g2, g3, g4, g5⟩ => ?_⟩
    · have n := key g1 (by intro e; rw [e] at g2; cases g2)
      rw [backE_out n] at g3
      exact ⟨j, m, d, g1, g2, g3, g4, by rw [wipe_out n]; exact g5⟩
    · have n := key g1 (by intro e; rw [e] at g2; cases g2)
      rw [wipe_out n] at g5
      exact ⟨j, m, d, g1, g2, by rw [backE_out n]; exact g3, g4, g5⟩
  · funext j p
    refine propext ⟨fun ⟨d, g1, g3, g4, g5⟩ => ?_, fun ⟨d, g1, g3, g4, g5⟩ => ?_⟩
    · have n := key g1 (by intro e; cases e)
      rw [backE_out n] at g3
      exact ⟨d, g1, g3, g4, by rw [wipe_out n]; exact g5⟩
    · have n := key g1 (by intro e; cases e)
      rw [wipe_out n] at g5
      exact ⟨d, g1, by rw [backE_out n]; exact g3, g4, g5⟩
theorem Rel.back (r1 : Rel K mg Γ ρ1 σ H1 F1) (r2 : Rel K mg Γ ρ2 (L2.wipe σ vs) H F) (s : Same F1 F) (hv : ∀ v ∈ vs, Γ[v]? = some .fz) : Rel K mg Γ (backE ρ1 ρ2 vs) σ H F := by
  have wl : (L2.wipe σ vs).length = σ.length := L2.wipe_length σ vs
  have key : ∀ {j : Nat} {m : Md}, Γ[j]? = some m → m ≠ .fz → j ∉ vs := fun {j m} h hm hj => by
    rw [hv j hj] at h; cases h; exact hm rfl
  refine ⟨by rw [backE_length, r2.lr, wl], by rw [r2.lg, wl], fun j m d g1 g2 => ?_, fun a b p ga gb => ?_, r2.sub⟩
  · by_cases hj : j ∈ vs
    · have hl : j < ρ2.length := by
        rcases Nat.lt_or_ge j ρ2.length with q | q
        · exact q
        · rw [List.getElem?_eq_none (by rw [backE_length]; exact q)] at g2; cases g2
      rw [backE_in hj hl] at g2
      have hm := hv j hj
      rw [g1] at hm; cases hm
      cases h : ρ1[j]? with
      | none => rw [h] at g2; cases g2
      | some o =>
        rw [h] at g2
        have g2 : some o = some (some d) := g2
        cases g2
        obtain ⟨v, k1, k2⟩ := r1.slot j _ d g1 h
        exact ⟨v, k1, rep_mono s k2⟩
    · rw [backE_out hj] at g2
      obtain ⟨v, k1, k2⟩ := r2.slot j m d g1 g2
      rw [wipe_out hj] at k1
      exact ⟨v, k1, by rw [back_own hv]; exact k2⟩
  · have tr : ∀ {j : Nat}, OwnAt Γ (backE ρ1 ρ2 vs) σ j p → OwnAt Γ ρ2 (L2.wipe σ vs) j p := fun {j} ⟨m, d, g1, g2, g3, g4, g5⟩ => by
      have n := key g1 (by intro e; rw [e] at g2; cases g2)
      rw [backE_out n] at g3
      exact ⟨m, d, g1, g2, g3, g4, by rw [wipe_out n]; exact g5⟩
    exact r2.inj a b p (tr ga) (tr gb)
theorem wipe_keep (hl : σ.length = σ'.length) (k : Keep vs σ σ') : L2.wipe σ' vs = L2.wipe σ vs := by
  apply List.ext_getElem?
  intro j
  by_cases hj : j ∈ vs
  · have aux : ∀ (τ : St) (ws : List Nat), j ∈ ws → j < τ.length → (L2.wipe τ ws)[j]? = some none := by
      intro τ ws
      induction ws with
      | nil => intro h; cases h
      | cons w ws ih =>
        intro h hl
        unfold L2.wipe
        by_cases e : w = j
        · subst e; rw [getset (by rw [L2.wipe_length]; exact hl)]
        · rw [List.getElem?_set_ne e]
          rcases List.mem_cons.mp h with z | z
          · exact absurd z.symm e
          · exact ih z hl
    by_cases h : j < σ.length
    · rw [aux σ vs hj h, aux σ' vs hj (by omega)]
    · rw [List.getElem?_eq_none (by rw [L2.wipe_length]; omega), List.getElem?_eq_none (by rw [L2.wipe_length]; omega)]
  · rw [wipe_out hj, wipe_out hj]; exact k.2 j hj
end
/-- one address more -/
def Ft.add (O : Ft) (p : Addr) : Ft := ⟨fun q => O.o q ∨ q = p, O.b⟩
section
variable {K : PySem.W.Frag} {mg : Str → Option Value} {Γ : Gm} {ρ : Env} {σ : St} {O O' O2 : Ft} {H F H' F' H2 F2 : Hp} {p : Addr} {o u : HO}
theorem Evo.add (e : Evo O H F O' H' F') : Evo (O.add p) H F (O'.add p) H' F' :=
  ⟨e.sf, e.sh, fun q x h f n => e.kp q x h f fun z => n (.inl z), e.dom, fun q h => by
    rcases h with h | h
    · rcases e.ow q h with z | z
      · exact .inl (.inl z)
      · exact .inr z
    · exact .inl (.inr h), e.ob⟩
theorem Evo.start (s : Same F H) (hp : H p = none) : Evo O H F (O.add p) (L2.upd H p o) F :=
  ⟨Same.refl _, s.trans (Same.updN hp), fun q x h f _ => ⟨Same.updN hp _ _ h, f⟩, fun q h => by
    by_cases e : q = p
    · subst e; exact hp
    · rw [upd_ne e] at h; exact h, fun q h => by
    rcases h with h | h
    · exact .inl h
    · subst h; exact .inr hp, fun _ _ h => h⟩
theorem Evo.write (s : Same F H) (f : F p = none) (h : H p = some u) : Evo (O.add p) H F (O.add p) (L2.upd H p o) F :=
  ⟨Same.refl _, fun b x e => by rw [upd_ne (ne_of_none e f)]; exact s _ _ e, fun q x k1 k2 n => by
    have : q ≠ p := fun e => n (.inr e)
    rw [upd_ne this]; exact ⟨k1, k2⟩, fun q k => by
    by_cases e : q = p
    · subst e; rw [upd_same] at k; cases k
    · rw [upd_ne e] at k; exact k, fun q k => .inl k, fun _ _ k => k⟩
/-- the list that is being made is no slot's -/
theorem Rel.side (r : Rel K mg Γ ρ σ H F) (f : F p = none) (n : ¬ (Own Γ ρ σ).o p) (nb : ∀ j, ¬ (Own Γ ρ σ).b j p) : Rel K mg Γ ρ σ (L2.upd H p o) F :=
  ⟨r.lr, r.lg, fun i m d g1 g2 => by
    obtain ⟨v, h1, h2⟩ := r.slot i m d g1 g2
    refine ⟨v, h1, ?_⟩
    have cell : m.mut = true → Cell K mg H F v d → Cell K mg (L2.upd H p o) F v d := fun mu c => by
      unfold Cell at c ⊢
      split
      · rename_i hc
        rw [if_pos hc] at c
        obtain ⟨q, w, e1, e2, e3, e4⟩ := c
        subst e1
        exact ⟨q, w, rfl, by rw [upd_ne (fun x => by subst x; exact n ⟨i, m, d, g1, mu, g2, hc, h1⟩)]; exact e2, e3, e4⟩
      · rename_i hc
        rw [if_neg hc] at c
        exact c
    cases m with
    | xc a c x => exact h2
    | fz => exact h2
    | own => exact cell rfl h2
    | io q => exact ⟨h2.1, h2.2.1, cell rfl h2.2.2⟩
    | brw =>
      have h2 : RdN K mg (Own Γ ρ σ) H F v d := h2
      show RdN K mg (Own Γ ρ σ) (L2.upd H p o) F v d
      unfold RdN at h2 ⊢
      split
      · rename_i hc
        rw [if_pos hc] at h2
        obtain ⟨q, w, e1, e2, e3, e4⟩ := h2
        subst e1
        exact ⟨q, w, rfl, by rw [upd_ne (fun x => by subst x; exact nb i ⟨d, g1, g2, hc, h1⟩)]; exact e2, e3, e4⟩
      · rename_i hc
        rw [if_neg hc] at h2
        exact h2, r.inj, fun b x e => by rw [upd_ne (ne_of_none e f)]; exact r.sub _ _ e⟩
theorem Evo.updNew (e : Evo O H F O' H' F') (hp : H p = none) (hf : F' p = none) : Evo O H F O' (L2.upd H' p o) F' :=
  ⟨e.sf, fun b x k => by rw [upd_ne (ne_of_none k hf)]; exact e.sh _ _ k, fun q x k1 k2 n => by
    rw [upd_ne (ne_of_none k1 hp)]; exact e.kp q x k1 k2 n, fun q k => by
    by_cases z : q = p
    · subst z; exact hp
    · rw [upd_ne z] at k; exact e.dom q k, e.ow, e.ob⟩
end

section
variable {X : Cx} {Γ Γ' Γ1 Γ2 Γ3 : Gm} {S : SC} {W : WE} {tg iter elt : Expr} {ifs : List Expr} {pos : Pos} {ev : Ev} {et : Et} {f : Eit} {t : Tg} {scope : Scope} {own : List (Str × Nat)}
abbrev VTs (X : Cx) (Γ Γ' : Gm) (W : WE) (ifs : List Expr) (et : Et) : Prop := PTs X ifs (trT X Γ Γ' W et)
theorem vts_nil : VTs X Γ Γ W [] tYesE := ⟨fun pins s σ H Q I ⟨ρ, F, r, q⟩ => pts_nil.run pins s σ H Q I (q H F (Evo.refl r.sub) r)⟩
theorem vts_one {c : Expr} (h : VT X Γ Γ' W c et) : VTs X Γ Γ' W [c] et := pts_one h
theorem lc_tr {σ : St} {H : Hp} {Q : VK} {vs : List Nat} (hv : ∀ v ∈ vs, Γ1[v]? = some .fz) (h : trE X Γ Γ1 W .own (eLC f vs t et ev) σ H Q) :
    tLc (trI X Γ Γ1 W f) (trG X Γ1 vs t) (trT X Γ1 Γ1 WF et) (trE X Γ1 Γ1 WF .fz ev) vs σ H Q := by
  obtain ⟨ρ, F, r, q⟩ := h
  refine ⟨ρ, F, r, Res.sat_imp (Res.sat_bind.mp q) (fun z _ q J H1 F1 e1 r1 wk DD hD => ?_) fun _ h => h⟩
  by_cases hz : z.1.length ≤ 16777216
  · rw [if_pos hz] at q
    have q := Res.sat_bind.mp q
    obtain ⟨G, g0, gs, gt⟩ := wk
    obtain ⟨rw1, ow1⟩ := r1.wipe hv
    have nD : ∀ {O' : Ft} {H' F' : Hp}, Evo (Own Γ1 z.2 σ) H1 F1 O' H' F' → (∀ j, ¬ O'.b j DD) := fun e j hb => by
      obtain ⟨o, ho⟩ := r1.brwThere j DD (e.ob j DD hb)
      rw [hD] at ho; cases ho
    have D0 : ¬ (Own Γ1 z.2 σ).o DD := fun hb => by
      obtain ⟨o, ho, _⟩ := Own.there r1 hb
      rw [hD] at ho; cases ho
    have fD : F1 DD = none := L2.Same.free r1.sub hD
    -- what holds between two turns
    let Inv := fun (l : List VL.D) (acc : List VL.D) (H' : Hp) => ∃ ρ' F' ws, Rel X.K X.mg Γ1 ρ' (L2.wipe σ vs) H' F' ∧ G ((Own Γ1 ρ' (L2.wipe σ vs)).add DD) H' F' ∧ Evo (Own Γ1 z.2 σ) H1 F1 (Own Γ1 ρ' (L2.wipe σ vs)) H' F' ∧
      H' DD = some (.lst ws) ∧ F' DD = none ∧ ¬ (Own Γ1 ρ' (L2.wipe σ vs)).o DD ∧ reps X.K X.mg F' acc ws ∧
      (lcGo vs t et ev l acc ρ').sat (fun r => ∀ v H2 F2, Evo (Own Γ ρ σ) H F (Own Γ1 (backE z.2 r.2 vs) σ) H2 F2 → Rel X.K X.mg Γ1 (backE z.2 r.2 vs) σ H2 F2 → ValOk X.K X.mg .own (Own Γ1 (backE z.2 r.2 vs) σ) H H2 F2 v (.lst r.1) → Q v H2) (exW W Γ ρ σ H F)
    refine ⟨fun i m H' => m = z.1.length - i ∧ i ≤ z.1.length ∧ ∃ acc, acc.length ≤ i ∧ Inv (z.1.drop i) acc H', ⟨_, rfl, Nat.zero_le _, [], Nat.le_refl _, wipeE z.2 vs, F1, [], ?_⟩, ?_⟩
    · refine ⟨rw1.side (o := .lst []) fD (by rw [ow1]; exact D0) (by rw [ow1]; exact nD (Evo.refl r1.sub)), ?_, ?_, upd_same, fD, by rw [ow1]; exact D0, reps_nil, by rw [List.drop_zero]; exact q⟩
      · rw [ow1]; exact gs _ _ _ _ _ _ g0 (Evo.start r1.sub hD)
      · rw [ow1]; exact (Evo.refl r1.sub).updNew hD fD
    · rintro i m H' ⟨rfl, hi, acc, ha, ρ', F', ws, r2, g2, e2, hD2, fD2, oD2, ra, q2⟩
      obtain ⟨t1, t2⟩ := gt i _ H' F' g2 r2.sub
      rcases Nat.lt_or_ge i z.1.length with hl | hl
      · obtain ⟨d, hd⟩ : ∃ d, z.1[i]? = some d := ⟨_, List.getElem?_eq_getElem hl⟩
        obtain ⟨go, yl⟩ := t1 d hd
        have dr : z.1.drop i = d :: z.1.drop (i + 1) := by
          rw [List.drop_eq_getElem_cons hl]
          rw [List.getElem?_eq_getElem hl] at hd
          cases hd; rfl
        rw [dr] at q2
        obtain ⟨ρ3, hb3, q3⟩ := opt_sat (Res.sat_bind.mp q2)
        refine .inr ⟨go, fun H3 => ∃ acc, acc.length ≤ i + 1 ∧ Inv (z.1.drop (i + 1)) acc H3, fun H3 h3 => ⟨z.1.length - (i + 1), by omega, rfl, hl, h3⟩, fun x H3 y => ?_⟩
        obtain ⟨F3, gr, rx⟩ := yl x H3 y
        refine ⟨ρ', F3, d, ρ3, r2.grow gr, rx, hb3, fun σ4 ⟨m1, m2, m3⟩ => ?_⟩
        have lens : (L2.wipe σ vs).length = σ4.length := by rw [← r2.lg, ← m1.lg]
        have wk4 : L2.wipe σ4 vs = L2.wipe σ vs := by
          have h1 := wipe_keep lens m3
          have h2 : L2.wipe (L2.wipe σ vs) vs = L2.wipe σ vs := wipe_keep (by rw [L2.wipe_length]) (⟨L2.wipe_length σ vs, fun j hj => wipe_out hj⟩)
          rw [h1, h2]
        refine ⟨wk4, ρ3, F3, m1, Res.sat_imp (noexn_sat (E' := fun _ => False) (Res.sat_bind.mp q3)) (fun c _ q4 H5 F5 e5 r5 => ?_) fun _ h => h.elim⟩
        have e4 := e2.trans (gr.evo.trans m2)
        -- the list being made stands
        have keepD : ∀ {O' : Ft} {H6 F6 : Hp}, Evo (Own Γ1 ρ' (L2.wipe σ vs)) H' F' O' H6 F6 → H6 DD = some (.lst ws) ∧ F6 DD = none ∧ ¬ O'.o DD := fun {O' H6 F6} e => by
          obtain ⟨k1, k2⟩ := e.kp DD _ hD2 fD2 oD2
          refine ⟨k1, k2, fun z => ?_⟩
          rcases e.ow DD z with w | w
          · exact oD2 w
          · rw [hD2] at w; cases w
        have e35 := (gr.evo.trans m2).trans e5
        dsimp only
        split
        · rename_i hc
          rw [if_pos hc] at q4
          refine ⟨c.2, F5, r5, Res.sat_imp (noexn_sat (E' := fun _ => False) (Res.sat_bind.mp q4)) (fun y _ q5 w H6 F6 e6 r6 vo => ?_) fun _ h => h.elim⟩
          have e36 := e35.trans e6
          obtain ⟨k1, k2, k3⟩ := keepD e36
          have vo : rep X.K X.mg F6 y.1 w := vo
          obtain ⟨r7, o7⟩ := r6.wipe hv
          rw [wk4] at r7 o7
          have e16 := e2.trans e36
          refine ⟨ws, k1, by rw [sizeLine_eq, reps_length ra]; omega, acc ++ [y.1], by simp; omega, wipeE y.2 vs, F6, ws ++ [w], ?_⟩
          have nb := nD e16
          refine ⟨r7.side k2 (by rw [o7]; exact k3) (by rw [o7]; exact nb), ?_, ?_, upd_same, k2, by rw [o7]; exact k3, reps_append (reps_mono e36.sf ra) (reps_one vo), q5⟩
          · rw [o7]
            exact gs _ _ _ _ _ _ (gs _ _ _ _ _ _ g2 e36.add) (Evo.write r6.sub k2 k1)
          · rw [o7]
            exact e16.updNew hD k2
        · rename_i hc
          rw [if_neg hc] at q4
          obtain ⟨k1, k2, k3⟩ := keepD e35
          obtain ⟨r7, o7⟩ := r5.wipe hv
          rw [wk4] at r7 o7
          refine ⟨acc, by omega, wipeE c.2 vs, F5, ws, r7, ?_, ?_, k1, k2, by rw [o7]; exact k3, reps_mono e35.sf ra, q4⟩
          · rw [o7]; exact gs _ _ _ _ _ _ g2 e35.add
          · rw [o7]; exact e2.trans e35
      · have e : i = z.1.length := by omega
        refine .inl ⟨t2 e, ?_⟩
        rw [e, List.drop_length] at q2
        have bo := back_own (ρ1 := z.2) (ρ2 := ρ') (σ := σ) hv
        refine q2 (.ref DD) H' F' ?_ (r1.back r2 e2.sf hv) ⟨?_, fun _ p hp => ?_⟩
        · rw [bo]; exact e1.trans e2
        · unfold Cell
          rw [if_pos (show cellD (.lst _) = true from rfl)]
          exact ⟨DD, _, rfl, hD2, ⟨ws, rfl, ra⟩, fD2⟩
        · cases hp
          exact ⟨e1.dom DD hD, by rw [bo]; exact oD2⟩
  · rw [if_neg hz] at q; exact q.elim
theorem ve_lc (hc : X.calm = true) (hN : X.N.Nodup) (hi : VI X Γ Γ1 W tg iter f) (ok : BlkOk X.N X.env.scope scope own) (hv : ∀ v ∈ own.map (·.2), Γ1[v]? = some .fz)
    (hg : ∀ (s : Shared) (H : Hp) (C : Addr) (cl : List (Str × Addr)) (fp : List Addr), VG (X.blk s H scope (compEnvC scope cl C X.env) fp) Γ1 (own.map (·.2)) tg t)
    (ht : ∀ (s : Shared) (H : Hp) (C : Addr) (cl : List (Str × Addr)) (fp : List Addr), VTs (X.blk s H scope (compEnvC scope cl C X.env) fp) Γ1 Γ1 WF ifs et)
    (he : ∀ (s : Shared) (H : Hp) (C : Addr) (cl : List (Str × Addr)) (fp : List Addr), VE (X.blk s H scope (compEnvC scope cl C X.env) fp) Γ1 Γ1 WF elt .fz ev) (hs : ∀ x, foldedSetIterable iter X.env x = pure x := by intro _; rfl) :
    VE X Γ Γ1 W (.ListComp elt [⟨tg, iter, ifs, 0⟩] scope pos) .own (eLC f (own.map (·.2)) t et ev) :=
  peImp (pe_lc hc hN hi ok hg ht he hs) fun σ H Q h => lc_tr hv h
/-- x = [..] on one line -/
theorem vs_setLc {i : Nat} {y : Str} {py : Pos} {spos : Pos} {m : Md} (hc : X.calm = true) (hN : X.N.Nodup) (hy : X.N[i]? = some y) (hyl : X.env.scope.names.lookup y = some .local)
    (hsw : swapsWith (.ListComp elt [⟨tg, iter, ifs, 0⟩] scope pos) (some (.Name y py)) spos.line X.env = pure true) (hi : VI X Γ Γ1 W tg iter f) (ok : BlkOk X.N X.env.scope scope own) (hv : ∀ v ∈ own.map (·.2), Γ1[v]? = some .fz)
    (hg : ∀ (s : Shared) (H : Hp) (C : Addr) (cl : List (Str × Addr)) (fp : List Addr), VG (X.blk s H scope (compEnvC scope cl C X.env) fp) Γ1 (own.map (·.2)) tg t)
    (ht : ∀ (s : Shared) (H : Hp) (C : Addr) (cl : List (Str × Addr)) (fp : List Addr), VTs (X.blk s H scope (compEnvC scope cl C X.env) fp) Γ1 Γ1 WF ifs et)
    (he : ∀ (s : Shared) (H : Hp) (C : Addr) (cl : List (Str × Addr)) (fp : List Addr), VE (X.blk s H scope (compEnvC scope cl C X.env) fp) Γ1 Γ1 WF elt .fz ev)
    (hm : m = .own ∨ m = .fz) (hl : i < Γ1.length) (ha : i ∈ S.As) (hs : ∀ x, foldedSetIterable iter X.env x = pure x := by intro _; rfl) :
    VS X Γ (Γ1.set i m) S W (.Assign [.Name y py] (.ListComp elt [⟨tg, iter, ifs, 0⟩] scope pos) spos) (sSet i (eLC f (own.map (·.2)) t et ev)) :=
  psImp (ps_setLc hc hN hy hyl hsw hi ok hg ht he hs) fun D σ H ⟨ρ, F, r, q⟩ => by
    refine lc_tr hv ⟨ρ, F, r, Res.sat_imp (Res.sat_bind.mp q) (fun z _ q v H' F' ee r1 vo => ?_) fun _ h => h.ex⟩
    rcases hm with rfl | rfl
    · obtain ⟨r2, e2⟩ := r1.setM hl ee r.brwThere vo (.inr rfl)
      exact q _ H' F' e2 (Keep.set ha) r2
    · obtain ⟨c, n⟩ := vo
      unfold Cell at c
      by_cases hc : cellD z.1 = true
      · rw [if_pos hc] at c
        obtain ⟨p, o, e2, k1, k2, k3⟩ := c
        subst e2
        obtain ⟨n1, n2⟩ := n hc p rfl
        have ef := ee.frz k1 k3 fun u z _ => by rw [n1] at z; cases z
        obtain ⟨r2, e2⟩ := (r1.frz k1 k3 n2).setM (m := .fz) hl ef r.brwThere ((rep_cell hc).mpr ⟨p, o, rfl, upd_same, cont_mono (Same.updF k3) k2⟩) (.inl rfl)
        exact q _ H' _ e2 (Keep.set ha) r2
      · rw [if_neg hc] at c
        obtain ⟨r2, e2⟩ := r1.setM (m := .fz) hl ee r.brwThere c (.inl rfl)
        exact q _ H' F' e2 (Keep.set ha) r2
end
end VL

set_option Elab.async false
set_option linter.all false
set_option maxRecDepth 100000
/-! VL10: defs and their calls. -/
namespace VL
open PySem PySem.Spec PyProof.Rows L2

inductive PM where
  | fz | brw | io
  deriving DecidableEq
/-- the objects handed over to be changed -/
def ioAd : List PM → List V → List Addr
  | .io :: ms, .ref p :: vs => p :: ioAd ms vs
  | _ :: ms, _ :: vs => ioAd ms vs
  | _, _ => []
def InL (l : List Addr) : Ft := ⟨fun p => p ∈ l, fun _ _ => False⟩
section
variable (K : PySem.W.Frag) (mg : Str → Option Value)
def PArg (I : List Addr) (H F : Hp) : PM → V → D → Prop
  | .fz, v, d => rep K mg F d v
  | .brw, v, d => RdN K mg (InL I) H F v d
  | .io, v, d => ∃ p, v = .ref p ∧ p ∈ I ∧ cellD d = true ∧ Cell K mg H F v d
def PArgs (I : List Addr) (H F : Hp) : List PM → List V → List D → Prop
  | [], vs, ds => vs = [] ∧ ds = []
  | m :: ms, vs, ds => ∃ v w d e, vs = v :: w ∧ ds = d :: e ∧ PArg K mg I H F m v d ∧ PArgs I H F ms w e
def IoBack (I : List Addr) (outs : List D) (H' F' : Hp) : Prop := outs.length = I.length ∧ ∀ (k : Nat) (p : Addr) (d : D), I[k]? = some p → outs[k]? = some d → cellD d = true ∧ Cell K mg H' F' (.ref p) d
/-- how a call leaves the heap: only the objects handed over may be changed -/
structure FEvo (I : List Addr) (H F H' F' : Hp) : Prop where
  sf : Same F F'
  sh : Same F' H'
  kp : ∀ p o, H p = some o → F p = none → p ∉ I → H' p = some o ∧ F' p = none
  dom : ∀ p, H' p = none → H p = none
def RetF (rm : Md) (H H' F' : Hp) (v : V) (d : D) : Prop :=
  match rm with
  | .own => Cell K mg H' F' v d ∧ (cellD d = true → ∀ p, v = .ref p → H p = none)
  | _ => rep K mg F' d v
abbrev Fe := List D → Res (D × List D)
/-- a wish about exceptions, at a call -/
abbrev XW := Exn → Hp → Hp → XK → Prop
def spFn (pms : List PM) (rm : Md) (f : Fe) (EX : XW) : Sp := fun vs H Q E => vs.length = pms.length ∧ ∃ F ds, Same F H ∧ PArgs K mg (ioAd pms vs) H F pms vs ds ∧ (ioAd pms vs).Nodup ∧
  (f ds).sat (fun r => ∀ v H' F', FEvo (ioAd pms vs) H F H' F' → IoBack K mg (ioAd pms vs) r.2 H' F' → RetF K mg rm H H' F' v r.1 → Q v H') (fun x => ∀ H' F', FEvo (ioAd pms vs) H F H' F' → EX x H' F' E)
end

/-! ### the callee -/
def g0 : List PM → List V → Gm
  | .fz :: ms, _ :: vs => .fz :: g0 ms vs
  | .brw :: ms, _ :: vs => .brw :: g0 ms vs
  | .io :: ms, .ref p :: vs => .io p :: g0 ms vs
  | .io :: ms, _ :: vs => .fz :: g0 ms vs
  | _, _ => []
def io0 : Nat → List PM → List V → List (Nat × Addr)
  | i, .io :: ms, .ref p :: vs => (i, p) :: io0 (i + 1) ms vs
  | i, _ :: ms, _ :: vs => io0 (i + 1) ms vs
  | _, _, _ => []
def ioIx : Nat → List PM → List Nat
  | i, .io :: ms => i :: ioIx (i + 1) ms
  | i, _ :: ms => ioIx (i + 1) ms
  | _, [] => []
def outsOf : List Nat → Env → Res (List D)
  | [], _ => .ok []
  | i :: is, ρ => (gv ρ i).bind fun d => (outsOf is ρ).bind fun ds => .ok (d :: ds)
def fnEv (pms : List PM) (n : Nat) (body : Es) : Fe := fun ds => (body (ds.map some ++ List.replicate (n - ds.length) none)).bind fun fl => match fl with
  | .ret d ρ => (outsOf (ioIx 0 pms) ρ).bind fun os => .ok (d, os)
  | .next ρ => (outsOf (ioIx 0 pms) ρ).bind fun os => .ok (.non, os)
  | _ => .bad
section
variable {K : PySem.W.Frag} {mg : Str → Option Value} {Γ : Gm} {ρ : Env} {σ : St} {H F H' F' : Hp} {I : List Addr}
theorem outs_sat {P : List D → Prop} {E : Exn → Prop} : ∀ {is : List Nat}, (outsOf is ρ).sat P E → ∃ ds, P ds ∧ ds.length = is.length ∧ ∀ (k i : Nat) (d : D), is[k]? = some i → ds[k]? = some d → ρ[i]? = some (some d)
  | [], h => ⟨[], h, rfl, fun k i d h => by simp at h⟩
  | i :: is, h => by
    obtain ⟨d, hd, h⟩ := gv_sat (Res.sat_bind.mp h)
    obtain ⟨ds, h1, h2, h3⟩ := outs_sat (is := is) (Res.sat_bind.mp h)
    refine ⟨d :: ds, h1, by simp [h2], fun k j e hk he => ?_⟩
    cases k with
    | zero => simp at hk he; subst hk he; exact hd
    | succ k => exact h3 k j e (by simpa using hk) (by simpa using he)
theorem PArgs.len : ∀ {ms : List PM} {vs : List V} {ds : List D}, PArgs K mg I H F ms vs ds → vs.length = ms.length ∧ ds.length = ms.length
  | [], _, _, ⟨h1, h2⟩ => by subst h1 h2; exact ⟨rfl, rfl⟩
  | m :: ms, _, _, ⟨v, w, d, e, h1, h2, _, h4⟩ => by
    subst h1 h2
    obtain ⟨k1, k2⟩ := h4.len
    exact ⟨by simp [k1], by simp [k2]⟩
theorem PArgs.get : ∀ {ms : List PM} {vs : List V} {ds : List D} {i : Nat} {m : PM}, PArgs K mg I H F ms vs ds → ms[i]? = some m → ∃ v d, vs[i]? = some v ∧ ds[i]? = some d ∧ PArg K mg I H F m v d
  | [], _, _, _, _, _, e => by simp at e
  | m :: ms, _, _, 0, _, ⟨v, w, d, e, h1, h2, h3, h4⟩, he => by
    simp at he; subst h1 h2 he
    exact ⟨v, d, rfl, rfl, h3⟩
  | m :: ms, _, _, i + 1, _, ⟨v, w, d, e, h1, h2, h3, h4⟩, he => by
    subst h1 h2
    obtain ⟨v', d', k1, k2, k3⟩ := h4.get (i := i) (by simpa using he)
    exact ⟨v', d', by simpa using k1, by simpa using k2, k3⟩
/-- the modes at the L2.start, by the places -/
theorem g0_get : ∀ {ms : List PM} {vs : List V} {ds : List D} {i : Nat} {m : Md}, PArgs K mg I H F ms vs ds → (g0 ms vs)[i]? = some m →
    ∃ v d, vs[i]? = some v ∧ ds[i]? = some d ∧ ((m = .fz ∧ rep K mg F d v) ∨ (m = .brw ∧ RdN K mg (InL I) H F v d) ∨ ∃ p, m = .io p ∧ v = .ref p ∧ p ∈ I ∧ cellD d = true ∧ Cell K mg H F v d)
  | [], _, _, _, _, ⟨h1, h2⟩, e => by subst h1 h2; simp [g0] at e
  | pm :: ms, _, _, i, m, ⟨v, w, d, e, h1, h2, h3, h4⟩, he => by
    subst h1 h2
    have step : ∀ {x : Md}, g0 (pm :: ms) (v :: w) = x :: g0 ms w → ((x = .fz ∧ rep K mg F d v) ∨ (x = .brw ∧ RdN K mg (InL I) H F v d) ∨ ∃ p, x = .io p ∧ v = .ref p ∧ p ∈ I ∧ cellD d = true ∧ Cell K mg H F v d) →
        ∃ v' d', (v :: w)[i]? = some v' ∧ (d :: e)[i]? = some d' ∧ ((m = .fz ∧ rep K mg F d' v') ∨ (m = .brw ∧ RdN K mg (InL I) H F v' d') ∨ ∃ p, m = .io p ∧ v' = .ref p ∧ p ∈ I ∧ cellD d' = true ∧ Cell K mg H F v' d') := fun {x} e1 h0 => by
      rw [e1] at he
      cases i with
      | zero => simp at he; subst he; exact ⟨v, d, rfl, rfl, h0⟩
      | succ i =>
        obtain ⟨v', d', k1, k2, k3⟩ := g0_get h4 (i := i) (by simpa using he)
        exact ⟨v', d', by simpa using k1, by simpa using k2, k3⟩
    cases pm with
    | fz => exact step (by simp only [g0]) (.inl ⟨rfl, h3⟩)
    | brw => exact step (by simp only [g0]) (.inr (.inl ⟨rfl, h3⟩))
    | io =>
      obtain ⟨p, rfl, k1, k2, k3⟩ := h3
      exact step (by simp only [g0]) (.inr (.inr ⟨p, rfl, rfl, k1, k2, k3⟩))
theorem g0_length : ∀ {ms : List PM} {vs : List V}, vs.length = ms.length → (g0 ms vs).length = ms.length
  | [], [], _ => rfl
  | [], _ :: _, h => by simp at h
  | _ :: _, [], h => by simp at h
  | m :: ms, v :: vs, h => by
    have ih := g0_length (ms := ms) (vs := vs) (by simpa using h)
    cases m with
    | fz => simp only [g0, List.length_cons, ih]
    | brw => simp only [g0, List.length_cons, ih]
    | io => cases v <;> simp only [g0, List.length_cons, ih]
/-- where the objects handed over stand -/
theorem g0_io : ∀ {ms : List PM} {vs : List V} {i : Nat} {p : Addr}, (g0 ms vs)[i]? = some (Md.io p) → vs[i]? = some (.ref p) ∧ p ∈ ioAd ms vs
  | [], vs, _, _, e => by cases vs <;> simp [g0] at e
  | m :: ms, [], _, _, e => by cases m <;> simp [g0] at e
  | m :: ms, v :: vs, i, p, e => by
    cases m with
    | fz =>
      simp only [g0] at e
      cases i with
      | zero => simp at e
      | succ i => obtain ⟨k1, k2⟩ := g0_io (ms := ms) (vs := vs) (i := i) (by simpa using e); exact ⟨by simpa using k1, by simpa [ioAd] using k2⟩
    | brw =>
      simp only [g0] at e
      cases i with
      | zero => simp at e
      | succ i => obtain ⟨k1, k2⟩ := g0_io (ms := ms) (vs := vs) (i := i) (by simpa using e); exact ⟨by simpa using k1, by simpa [ioAd] using k2⟩
    | io =>
      cases v with
      | ref q =>
        simp only [g0] at e
        cases i with
        | zero => simp at e; subst e; exact ⟨rfl, by simp [ioAd]⟩
        | succ i => obtain ⟨k1, k2⟩ := g0_io (ms := ms) (vs := vs) (i := i) (by simpa using e); exact ⟨by simpa using k1, by simp only [ioAd, List.mem_cons]; exact .inr k2⟩
      | _ =>
        simp only [g0] at e
        cases i with
        | zero => simp at e
        | succ i => obtain ⟨k1, k2⟩ := g0_io (ms := ms) (vs := vs) (i := i) (by simpa using e); exact ⟨by simpa using k1, by simpa [ioAd] using k2⟩
theorem g0_inj : ∀ {ms : List PM} {vs : List V} {i j : Nat} {p : Addr}, (ioAd ms vs).Nodup → (g0 ms vs)[i]? = some (Md.io p) → (g0 ms vs)[j]? = some (Md.io p) → i = j
  | [], vs, _, _, _, _, e, _ => by cases vs <;> simp [g0] at e
  | m :: ms, [], _, _, _, _, e, _ => by cases m <;> simp [g0] at e
  | m :: ms, v :: vs, i, j, p, nd, e1, e2 => by
    cases m with
    | fz =>
      simp only [g0] at e1 e2
      cases i <;> cases j <;> simp at e1 e2
      rw [g0_inj (ms := ms) (vs := vs) (by simpa [ioAd] using nd) e1 e2]
    | brw =>
      simp only [g0] at e1 e2
      cases i <;> cases j <;> simp at e1 e2
      rw [g0_inj (ms := ms) (vs := vs) (by simpa [ioAd] using nd) e1 e2]
    | io =>
      cases v with
      | ref q =>
        simp only [g0] at e1 e2
        simp only [ioAd, List.nodup_cons] at nd
        cases i <;> cases j <;> simp at e1 e2
        · rfl
        · subst e1; exact absurd (g0_io e2).2 nd.1
        · subst e2; exact absurd (g0_io e1).2 nd.1
        · rw [g0_inj nd.2 e1 e2]
      | _ =>
        simp only [g0] at e1 e2
        cases i <;> cases j <;> simp at e1 e2
        rw [g0_inj (ms := ms) (vs := vs) (by simpa [ioAd] using nd) e1 e2]
theorem g0_mem : ∀ {ms : List PM} {vs : List V} {p : Addr}, p ∈ ioAd ms vs → ∃ i : Nat, (g0 ms vs)[i]? = some (Md.io p)
  | [], vs, _, h => by cases vs <;> simp [ioAd] at h
  | m :: ms, [], _, h => by cases m <;> simp [ioAd] at h
  | m :: ms, v :: vs, p, h => by
    cases m with
    | fz => obtain ⟨i, hi⟩ := g0_mem (ms := ms) (vs := vs) (p := p) (by simpa [ioAd] using h); exact ⟨i + 1, by simpa [g0] using hi⟩
    | brw => obtain ⟨i, hi⟩ := g0_mem (ms := ms) (vs := vs) (p := p) (by simpa [ioAd] using h); exact ⟨i + 1, by simpa [g0] using hi⟩
    | io =>
      cases v with
      | ref q =>
        simp only [ioAd, List.mem_cons] at h
        rcases h with rfl | h
        · exact ⟨0, by simp [g0]⟩
        · obtain ⟨i, hi⟩ := g0_mem h; exact ⟨i + 1, by simpa [g0] using hi⟩
      | _ => obtain ⟨i, hi⟩ := g0_mem (ms := ms) (vs := vs) (p := p) (by simpa [ioAd] using h); exact ⟨i + 1, by simpa [g0] using hi⟩
theorem io0_get : ∀ {ms : List PM} {vs : List V} {n i : Nat} {p : Addr}, (i, p) ∈ io0 n ms vs → ∃ k : Nat, i = n + k ∧ (g0 ms vs)[k]? = some (Md.io p)
  | [], vs, _, _, _, h => by cases vs <;> simp [io0] at h
  | m :: ms, [], _, _, _, h => by cases m <;> simp [io0] at h
  | m :: ms, v :: vs, n, i, p, h => by
    cases m with
    | fz => obtain ⟨k, h1, h2⟩ := io0_get (ms := ms) (vs := vs) (n := n + 1) (by simpa [io0] using h); exact ⟨k + 1, by omega, by simpa [g0] using h2⟩
    | brw => obtain ⟨k, h1, h2⟩ := io0_get (ms := ms) (vs := vs) (n := n + 1) (by simpa [io0] using h); exact ⟨k + 1, by omega, by simpa [g0] using h2⟩
    | io =>
      cases v with
      | ref q =>
        simp only [io0, List.mem_cons] at h
        rcases h with h | h
        · cases h; exact ⟨0, by omega, by simp [g0]⟩
        · obtain ⟨k, h1, h2⟩ := io0_get h; exact ⟨k + 1, by omega, by simpa [g0] using h2⟩
      | _ => obtain ⟨k, h1, h2⟩ := io0_get (ms := ms) (vs := vs) (n := n + 1) (by simpa [io0] using h); exact ⟨k + 1, by omega, by simpa [g0] using h2⟩
/-- the places of what is handed back and the objects, in order -/
theorem io0_at : ∀ {ms : List PM} {vs : List V} {n k : Nat} {p : Addr}, (∀ (i : Nat) (v : V), ms[i]? = some PM.io → vs[i]? = some v → ∃ q, v = .ref q) → vs.length = ms.length → (ioAd ms vs)[k]? = some p → ∃ i : Nat, (ioIx n ms)[k]? = some i ∧ (i, p) ∈ io0 n ms vs
  | [], vs, _, _, _, _, _, h => by cases vs <;> simp [ioAd] at h
  | m :: ms, [], _, _, _, _, hl, _ => by simp at hl
  | m :: ms, v :: vs, n, k, p, hr, hl, h => by
    have hr' : ∀ (i : Nat) (v : V), ms[i]? = some PM.io → vs[i]? = some v → ∃ q, v = .ref q := fun i w h1 h2 => hr (i + 1) w (by simpa using h1) (by simpa using h2)
    have hl' : vs.length = ms.length := by simpa using hl
    cases m with
    | fz => obtain ⟨i, h1, h2⟩ := io0_at (n := n + 1) hr' hl' (by simpa [ioAd] using h); exact ⟨i, by simpa [ioIx] using h1, by simpa [io0] using h2⟩
    | brw => obtain ⟨i, h1, h2⟩ := io0_at (n := n + 1) hr' hl' (by simpa [ioAd] using h); exact ⟨i, by simpa [ioIx] using h1, by simpa [io0] using h2⟩
    | io =>
      obtain ⟨q, rfl⟩ := hr 0 v rfl rfl
      simp only [ioAd] at h
      cases k with
      | zero => simp at h; subst h; exact ⟨n, by simp [ioIx], by simp [io0]⟩
      | succ k =>
        obtain ⟨i, h1, h2⟩ := io0_at (n := n + 1) hr' hl' (k := k) (by simpa using h)
        exact ⟨i, by simpa [ioIx] using h1, by simp only [io0, List.mem_cons]; exact .inr h2⟩
theorem ioIx_length : ∀ {ms : List PM} {vs : List V} {n : Nat}, (∀ (i : Nat) (v : V), ms[i]? = some PM.io → vs[i]? = some v → ∃ q, v = .ref q) → vs.length = ms.length → (ioIx n ms).length = (ioAd ms vs).length
  | [], [], _, _, _ => rfl
  | [], _ :: _, _, _, h => by simp at h
  | m :: ms, [], _, _, hl => by simp at hl
  | m :: ms, v :: vs, n, hr, hl => by
    have hr' : ∀ (i : Nat) (v : V), ms[i]? = some PM.io → vs[i]? = some v → ∃ q, v = .ref q := fun i w h1 h2 => hr (i + 1) w (by simpa using h1) (by simpa using h2)
    have ih := ioIx_length (n := n + 1) hr' (by simpa using hl)
    cases m with
    | fz => simpa [ioIx, ioAd] using ih
    | brw => simpa [ioIx, ioAd] using ih
    | io =>
      obtain ⟨q, rfl⟩ := hr 0 v rfl rfl
      simp only [ioIx, ioAd, List.length_cons, ih]
/-- the state at a def's L2.start -/
theorem rel_start {ms : List PM} {vs : List V} {ds : List D} {N : List Str} (s : Same F H) (h : PArgs K mg (ioAd ms vs) H F ms vs ds) (nd : (ioAd ms vs).Nodup) (hN : ms.length ≤ N.length) :
    Rel K mg (g0 ms vs ++ List.replicate (N.length - ms.length) .fz) (ds.map some ++ List.replicate (N.length - ds.length) none) (L2.start N vs) H F ∧
    ∀ p, (Own (g0 ms vs ++ List.replicate (N.length - ms.length) .fz) (ds.map some ++ List.replicate (N.length - ds.length) none) (L2.start N vs)).o p → p ∈ ioAd ms vs := by
  obtain ⟨l1, l2⟩ := h.len
  have l3 := g0_length l1
  have lst : (L2.start N vs).length = N.length := by unfold L2.start; rw [List.length_append, List.length_map, List.length_replicate]; omega
  have gΓ : ∀ i m d, (g0 ms vs ++ List.replicate (N.length - ms.length) Md.fz)[i]? = some m → (ds.map some ++ List.replicate (N.length - ds.length) none)[i]? = some (some d) → i < ms.length ∧ (g0 ms vs)[i]? = some m ∧ ds[i]? = some d := fun i m d g1 g2 => by
    by_cases hi : i < ms.length
    · rw [List.getElem?_append_left (by omega)] at g1
      rw [List.getElem?_append_left (by rw [List.length_map]; omega), List.getElem?_map] at g2
      refine ⟨hi, g1, ?_⟩
      cases e : ds[i]? with
      | none => rw [e] at g2; cases g2
      | some x => rw [e] at g2; cases g2; rfl
    · rw [List.getElem?_append_right (by rw [List.length_map]; omega)] at g2
      rw [List.getElem?_replicate] at g2
      split at g2 <;> cases g2
  have gσ : ∀ i v, vs[i]? = some v → (L2.start N vs)[i]? = some (some v) := fun i v e => by
    unfold L2.start
    have hi : i < vs.length := by
      rcases Nat.lt_or_ge i vs.length with q | q
      · exact q
      · rw [List.getElem?_eq_none q] at e; cases e
    rw [List.getElem?_append_left (by rw [List.length_map]; exact hi), List.getElem?_map, e]; rfl
  have own : ∀ j p, OwnAt (g0 ms vs ++ List.replicate (N.length - ms.length) .fz) (ds.map some ++ List.replicate (N.length - ds.length) none) (L2.start N vs) j p → (g0 ms vs)[j]? = some (Md.io p) := by
    rintro j p ⟨m, d, k1, k2, k3, k4, k5⟩
    obtain ⟨hi, q1, q2⟩ := gΓ j m d k1 k3
    obtain ⟨v, d', a1, a2, a3⟩ := g0_get h q1
    have := gσ j v a1
    rw [k5] at this; cases this
    rcases a3 with ⟨rfl, _⟩ | ⟨rfl, _⟩ | ⟨q, rfl, e, _⟩
    · cases k2
    · cases k2
    · cases e; exact q1
  have ownI : ∀ p, (Own (g0 ms vs ++ List.replicate (N.length - ms.length) .fz) (ds.map some ++ List.replicate (N.length - ds.length) none) (L2.start N vs)).o p → p ∈ ioAd ms vs := fun p ⟨j, hj⟩ => (g0_io (own j p hj)).2
  refine ⟨⟨by rw [List.length_append, List.length_map, List.length_replicate, lst]; omega, by rw [List.length_append, List.length_replicate, lst]; omega, fun i m d g1 g2 => ?_, fun a b p ga gb => g0_inj nd (own a p ga) (own b p gb), s⟩, ownI⟩
  obtain ⟨hi, q1, q2⟩ := gΓ i m d g1 g2
  obtain ⟨v, d', a1, a2, a3⟩ := g0_get h q1
  rw [q2] at a2; cases a2
  refine ⟨v, gσ i v a1, ?_⟩
  rcases a3 with ⟨rfl, r⟩ | ⟨rfl, r⟩ | ⟨q, rfl, e, _, c, r⟩
  · exact r
  · show RdN K mg _ H F v d
    unfold RdN at r ⊢
    split
    · rename_i hc
      rw [if_pos hc] at r
      obtain ⟨q, o, e1, e2, e3, e4⟩ := r
      refine ⟨q, o, e1, e2, e3, ?_⟩
      rcases e4 with e4 | ⟨e4, e5⟩
      · exact .inl e4
      · exact .inr ⟨e4, fun z => e5 (ownI q z)⟩
    · rename_i hc
      rw [if_neg hc] at r
      exact r
  · exact ⟨e, c, r⟩
end
/-- a def by its body: no exception leaves it -/
theorem fn_ok0 {P : Program} {w : World} {K : PySem.W.Frag} {mg : Str → Option Value} {base : Heap} {x qual : Str} {st : Stmt} {f : Addr} {fd : FuncData} {N ps : List Str} {k : Nat} {pms : List PM} {rm : Md} {eb : Es} {As : List Nat} {EX : XW}
    (Fn : Fun K x qual st f fd) (S : FnScope N ps (defScope st)) (hp : pms.length = ps.length) (hN : pms.length ≤ N.length) 
    (hb : ∀ (cdv : Value) (A : Around) (outer : List PySem.Env) (s : Shared) (H : Hp) (vs : List V) (E : XK), Room k (A.deeper (envOfC qual (defScope st) s.heap.objs.size f cdv)) → vs.length = pms.length → (∀ (i : Nat) (v : V), pms[i]? = some PM.io → vs[i]? = some v → ∃ q, v = .ref q) →
      ∃ Γ', (∀ i q, (i, q) ∈ io0 0 pms vs → Γ'[i]? = some (.io q)) ∧
        VSs (cxOf CX0 P w K mg base N qual (defScope st) f cdv A outer s H E).nox (g0 pms vs ++ List.replicate (N.length - pms.length) .fz) Γ' ⟨[], As, io0 0 pms vs, rm⟩ WF (defBody st) eb)
    (hr : rm = .own ∨ rm = .fz) :
    FnOk P w K mg base CX0 (k + 1) f fd ps (spFn K mg pms rm (fun ds => noexn (fnEv pms N.length eb ds)) EX) := by
  refine Fn.ok S (fun vs H Q E h => h.1.trans hp) fun cdv A outer s H vs Q E hroom h => ?_
  obtain ⟨hl, F, ds, sm, pa, nd, q⟩ := h
  have isref : ∀ (i : Nat) (v : V), pms[i]? = some PM.io → vs[i]? = some v → ∃ q, v = .ref q := fun i v h1 h2 => by
    obtain ⟨v', d', k1, k2, k3⟩ := pa.get h1
    rw [h2] at k1; cases k1
    obtain ⟨q, e, _⟩ := k3
    exact ⟨q, e⟩
  obtain ⟨Γ', hΓ, hv⟩ := hb cdv A outer s H vs E hroom hl isref
  refine ⟨_, hv, ds.map some ++ List.replicate (N.length - ds.length) none, F, ?_⟩
  obtain ⟨r0, o0⟩ := rel_start (N := N) sm pa nd hN
  refine ⟨r0, Res.sat_imp (Res.sat_bind.mp (noexn_sat (E' := fun _ => False) q)) (fun fl _ q => ?_) fun _ h => h.elim⟩
  have back : ∀ {ρ' : Env} {σ' : St} {H' F' : Hp} {Γr : Gm} {outs : List D}, Rel K mg Γr ρ' σ' H' F' → (∀ i q, (i, q) ∈ io0 0 pms vs → Γr[i]? = some (.io q)) → outs.length = (ioIx 0 pms).length → (∀ (k i : Nat) (d : D), (ioIx 0 pms)[k]? = some i → outs[k]? = some d → ρ'[i]? = some (some d)) → IoBack K mg (ioAd pms vs) outs H' F' := fun {ρ' σ' H' F' Γr outs} r hi h1 h2 =>
    ⟨by rw [h1]; exact ioIx_length isref hl, fun k p d e1 e2 => by
      obtain ⟨i, g1, g2⟩ := io0_at (n := 0) isref hl e1
      obtain ⟨v, a1, a2, a3, a4⟩ := r.slot i _ d (hi i p g2) (h2 k i d g1 e2)
      subst a2
      exact ⟨a3, a4⟩⟩
  have fe : ∀ {O' : Ft} {H' F' : Hp}, Evo (Own (g0 pms vs ++ List.replicate (N.length - pms.length) .fz) (ds.map some ++ List.replicate (N.length - ds.length) none) (L2.start N vs)) H F O' H' F' → FEvo (ioAd pms vs) H F H' F' := fun e => ⟨e.sf, e.sh, fun p o k1 k2 k3 => e.kp p o k1 k2 fun z => k3 (o0 p z), e.dom⟩
  cases fl with
  | next ρ' =>
    obtain ⟨outs, q, h1, h2⟩ := outs_sat (Res.sat_bind.mp q)
    exact fun σ' H' F' e k r => q .non H' F' (fe e) (back r hΓ h1 h2) (by
      rcases hr with rfl | rfl
      · exact ⟨by unfold Cell; rw [if_neg (show ¬ cellD .non = true from fun h => nomatch h)]; simp only [rep], fun c => by cases c⟩
      · simp only [RetF, rep])
  | brk ρ' => exact q.elim
  | cont ρ' => exact q.elim
  | ret d ρ' =>
    obtain ⟨outs, q, h1, h2⟩ := outs_sat (Res.sat_bind.mp q)
    refine fun v σ' H' F' Γr e r hi rv => q v H' F' (fe e) (back r hi h1 h2) ?_
    rcases hr with rfl | rfl
    · refine ⟨rv.1, fun c p z => ?_⟩
      rcases rv.2 c p z with k1 | ⟨k1, k2⟩
      · exact k1
      · obtain ⟨j, hj⟩ := List.getElem?_of_mem (o0 p k1)
        obtain ⟨i', g1, g2⟩ := io0_at (n := 0) isref hl hj
        exact absurd rfl (k2 i' p g2)
    · exact rv
end VL

set_option Elab.async false
set_option linter.all false
set_option maxRecDepth 100000
/-! VL11: calls of defs; modes given up; slots locked. -/
namespace VL
open PySem PySem.Spec PyProof.Rows L2

def ioSl : List Arg → List Nat
  | .io i :: as => i :: ioSl as
  | _ :: as => ioSl as
  | [] => []
def okA (ios : List Nat) : List PM → List Arg → Bool
  | [], [] => true
  | .fz :: ms, .val _ :: as => okA ios ms as
  | .brw :: ms, .val _ :: as => okA ios ms as
  | .brw :: ms, .bor (.ex _) :: as => okA ios ms as
  | .brw :: ms, .bor (.slot i) :: as => !ios.contains i && okA ios ms as
  | .io :: ms, .io i :: as => ios.contains i && okA ios ms as
  | _, _ => false
def ioCells : List PM → List D → Bool
  | .io :: ms, d :: ds => cellD d && ioCells ms ds
  | _ :: ms, _ :: ds => ioCells ms ds
  | _, _ => true
def setOuts : List Nat → List D → Env → Env
  | i :: is, d :: ds, ρ => (setOuts is ds ρ).set i (some d)
  | _, _, ρ => ρ
def eFn (pms : List PM) (f : Fe) (as : List Arg) : Ev := fun ρ => (Arg.runs as ρ).bind fun p => (Arg.fins as p.1 p.2).bind fun ds => if ioCells pms ds = true then (f ds).bind fun r => .ok (r.1, setOuts (ioSl as) r.2 p.2) else .bad

section
variable {K : PySem.W.Frag} {mg : Str → Option Value} {Γ : Gm} {ρ : Env} {σ : St} {H F H' F' : Hp} {I : List Addr} {ios : List Nat}
theorem setOuts_length : ∀ (is : List Nat) (ds : List D), (setOuts is ds ρ).length = ρ.length
  | [], _ => rfl
  | _ :: _, [] => rfl
  | i :: is, d :: ds => by simp only [setOuts, List.length_set, setOuts_length is ds]
theorem setOuts_out : ∀ {is : List Nat} {ds : List D} {j : Nat}, j ∉ is → (setOuts is ds ρ)[j]? = ρ[j]?
  | [], _, _, _ => rfl
  | _ :: _, [], _, _ => rfl
  | i :: is, d :: ds, j, h => by
    simp only [List.mem_cons, not_or] at h
    simp only [setOuts]
    rw [List.getElem?_set_ne (fun e => h.1 e.symm)]
    exact setOuts_out h.2
theorem setOuts_in : ∀ {is : List Nat} {ds : List D} {j : Nat}, j ∈ is → ds.length = is.length → j < ρ.length → ∃ (k : Nat) (d : D), is[k]? = some j ∧ ds[k]? = some d ∧ (setOuts is ds ρ)[j]? = some (some d)
  | [], _, _, h, _, _ => by cases h
  | i :: is, [], _, _, h, _ => by simp at h
  | i :: is, d :: ds, j, h, hl, hj => by
    simp only [setOuts]
    by_cases e : i = j
    · subst e
      exact ⟨0, d, rfl, rfl, by rw [getset (by rw [setOuts_length]; exact hj)]⟩
    · rcases List.mem_cons.mp h with z | z
      · exact absurd z.symm e
      · obtain ⟨k, d', k1, k2, k3⟩ := setOuts_in (ds := ds) z (by simpa using hl) hj
        exact ⟨k + 1, d', by simpa using k1, by simpa using k2, by rw [List.getElem?_set_ne e]; exact k3⟩
/-- what an argument hands over -/
theorem args_io (r : Rel K mg Γ ρ σ H F) (hm : ∀ i ∈ ios, ∃ m, Γ[i]? = some m ∧ m.mut = true) : ∀ {ms : List PM} {as : List Arg} {vs : List V} {ds : List D} {ods : List (Option D)},
    okA ios ms as = true → AFs K mg as (Own Γ ρ σ) σ H F vs ds → Arg.fins as ods ρ = .ok ds → ioCells ms ds = true →
    vs.length = ms.length ∧ (ioAd ms vs).length = (ioSl as).length ∧ (∀ (k i : Nat), (ioSl as)[k]? = some i → i ∈ ios ∧ ∃ p, (ioAd ms vs)[k]? = some p ∧ OwnAt Γ ρ σ i p)
  | [], [], _, _, _, _, ⟨h1, h2⟩, _, _ => by subst h1 h2; exact ⟨rfl, rfl, fun k i h => by simp [ioSl] at h⟩
  | [], _ :: _, _, _, _, h, _, _, _ => by simp [okA] at h
  | m :: ms, [], _, _, _, h, _, _, _ => by cases m <;> simp [okA] at h
  | m :: ms, a :: as, _, _, ods, h, ⟨v, w, d, e, h1, h2, h3, h4⟩, hf, hc => by
    subst h1 h2
    cases ods with
    | nil => simp [Arg.fins] at hf
    | cons od ods =>
    unfold Arg.fins at hf
    cases k1 : a.fin od ρ with
    | exn x => exact (Arg.fin_exn k1).elim
    | bad => rw [k1] at hf; cases hf
    | ok d0 =>
    rw [k1] at hf
    cases k2 : Arg.fins as ods ρ with
    | exn x => exact (Arg.fins_exn k2).elim
    | bad => simp only [Res.bind_ok, k2, Res.bind_bad] at hf; cases hf
    | ok es =>
    simp only [Res.bind_ok, k2] at hf
    cases hf
    have pass : ∀ (_ : okA ios ms as = true) (_ : ioCells ms e = true), _ := fun h hc => args_io r hm h h4 k2 hc
    cases m with
    | fz =>
      cases a <;> simp only [okA] at h <;> first | (cases h; done) | skip
      obtain ⟨q1, q2, q3⟩ := pass h (by simpa [ioCells] using hc)
      exact ⟨by simp [q1], by simpa [ioAd, ioSl] using q2, fun k i hk => by simpa [ioAd] using q3 k i (by simpa [ioSl] using hk)⟩
    | brw =>
      cases a with
      | val f =>
        simp only [okA] at h
        obtain ⟨q1, q2, q3⟩ := pass h (by simpa [ioCells] using hc)
        exact ⟨by simp [q1], by simpa [ioAd, ioSl] using q2, fun k i hk => by simpa [ioAd] using q3 k i (by simpa [ioSl] using hk)⟩
      | io i => simp [okA] at h
      | bor o =>
        cases o with
        | ex f =>
          simp only [okA] at h
          obtain ⟨q1, q2, q3⟩ := pass h (by simpa [ioCells] using hc)
          exact ⟨by simp [q1], by simpa [ioAd, ioSl] using q2, fun k i hk => by simpa [ioAd] using q3 k i (by simpa [ioSl] using hk)⟩
        | slot i =>
          simp only [okA, Bool.and_eq_true] at h
          obtain ⟨q1, q2, q3⟩ := pass h.2 (by simpa [ioCells] using hc)
          exact ⟨by simp [q1], by simpa [ioAd, ioSl] using q2, fun k i hk => by simpa [ioAd] using q3 k i (by simpa [ioSl] using hk)⟩
    | io =>
      cases a <;> simp only [okA, Bool.and_eq_true] at h <;> first | (cases h; done) | skip
      rename_i i
      simp only [ioCells, Bool.and_eq_true] at hc
      obtain ⟨q1, q2, q3⟩ := pass h.2 hc.2
      have hi : i ∈ ios := by simpa using h.1
      obtain ⟨md, m1, m2⟩ := hm i hi
      have hd := gv_ok (show gv ρ i = .ok d from k1)
      obtain ⟨p, o, s1, s2, s3, s4⟩ := r.ownAt m1 m2 hd hc.1
      have h3 : Rdd K mg H F v d ∧ σ[i]? = some (some v) := h3
      have e := h3.2
      rw [s1] at e; cases e
      refine ⟨by simp [q1], by simp [ioAd, ioSl, q2], fun k j hk => ?_⟩
      simp only [ioSl] at hk
      cases k with
      | zero => simp at hk; subst hk; exact ⟨hi, p, by simp [ioAd], md, d, m1, m2, hd, hc.1, s1⟩
      | succ k =>
        obtain ⟨a1, q, a2, a3⟩ := q3 k j (by simpa using hk)
        exact ⟨a1, q, by simpa [ioAd] using a2, a3⟩
theorem args_ok (r : Rel K mg Γ ρ σ H F) (hm : ∀ i ∈ ios, ∃ m, Γ[i]? = some m ∧ m.mut = true) (hI : ∀ p ∈ I, ∃ i ∈ ios, OwnAt Γ ρ σ i p) : ∀ {ms : List PM} {as : List Arg} {vs : List V} {ds : List D} {ods : List (Option D)},
    okA ios ms as = true → AFs K mg as (Own Γ ρ σ) σ H F vs ds → Arg.fins as ods ρ = .ok ds → ioCells ms ds = true → (∀ p ∈ ioAd ms vs, p ∈ I) → PArgs K mg I H F ms vs ds
  | [], [], _, _, _, _, ⟨h1, h2⟩, _, _, _ => ⟨h1, h2⟩
  | [], _ :: _, _, _, _, h, _, _, _, _ => by simp [okA] at h
  | m :: ms, [], _, _, _, h, _, _, _, _ => by cases m <;> simp [okA] at h
  | m :: ms, a :: as, _, _, ods, h, ⟨v, w, d, e, h1, h2, h3, h4⟩, hf, hc, hs => by
    subst h1 h2
    cases ods with
    | nil => simp [Arg.fins] at hf
    | cons od ods =>
    unfold Arg.fins at hf
    cases k1 : a.fin od ρ with
    | exn x => exact (Arg.fin_exn k1).elim
    | bad => rw [k1] at hf; cases hf
    | ok d0 =>
    rw [k1] at hf
    cases k2 : Arg.fins as ods ρ with
    | exn x => exact (Arg.fins_exn k2).elim
    | bad => simp only [Res.bind_ok, k2, Res.bind_bad] at hf; cases hf
    | ok es =>
    simp only [Res.bind_ok, k2] at hf
    cases hf
    have rdI : ∀ {v : V} {d : D}, RdN K mg (Own Γ ρ σ) H F v d → RdN K mg (InL I) H F v d := fun {v d} q => by
      unfold RdN at q ⊢
      split
      · rename_i hc
        rw [if_pos hc] at q
        obtain ⟨p, o, e1, e2, e3, e4⟩ := q
        refine ⟨p, o, e1, e2, e3, ?_⟩
        rcases e4 with e4 | ⟨e4, e5⟩
        · exact .inl e4
        · refine .inr ⟨e4, fun z => ?_⟩
          obtain ⟨i, _, hi⟩ := hI p z
          exact e5 ⟨i, hi⟩
      · rename_i hc
        rw [if_neg hc] at q
        exact q
    have pass : ∀ (_ : okA ios ms as = true) (_ : ioCells ms e = true) (_ : ∀ p ∈ ioAd ms w, p ∈ I), PArgs K mg I H F ms w e := fun h hc hs => args_ok r hm hI h h4 k2 hc hs
    cases m with
    | fz =>
      cases a <;> simp only [okA] at h <;> first | (cases h; done) | skip
      exact ⟨v, w, d, e, rfl, rfl, h3, pass h (by simpa [ioCells] using hc) (fun p hp => hs p (by simpa [ioAd] using hp))⟩
    | brw =>
      cases a with
      | val f =>
        simp only [okA] at h
        exact ⟨v, w, d, e, rfl, rfl, rep.rdN r.sub h3, pass h (by simpa [ioCells] using hc) (fun p hp => hs p (by simpa [ioAd] using hp))⟩
      | io i => simp [okA] at h
      | bor o =>
        cases o with
        | ex f =>
          simp only [okA] at h
          exact ⟨v, w, d, e, rfl, rfl, rdI h3, pass h (by simpa [ioCells] using hc) (fun p hp => hs p (by simpa [ioAd] using hp))⟩
        | slot i =>
          simp only [okA, Bool.and_eq_true] at h
          have ni : i ∉ ios := by simpa using h.1
          have hd := gv_ok (show gv ρ i = .ok d from k1)
          obtain ⟨md, m1⟩ := r.gm hd
          obtain ⟨u, s1, s2⟩ := r.slot i md d m1 hd
          have h3 : Rdd K mg H F v d ∧ σ[i]? = some (some v) := h3
          have ee := h3.2
          rw [s1] at ee; cases ee
          refine ⟨_, w, d, e, rfl, rfl, ?_, pass h.2 (by simpa [ioCells] using hc) (fun p hp => hs p (by simpa [ioAd] using hp))⟩
          have cell : md.mut = true → Cell K mg H F v d → RdN K mg (InL I) H F v d := fun mu c => c.rdN fun p ev hc z => by
            obtain ⟨j, hj, oj⟩ := hI p z
            have := r.inj i j p ⟨md, d, m1, mu, hd, hc, by rw [s1, ev]⟩ oj
            subst this
            exact ni hj
          cases md with
          | fz => exact rep.rdN r.sub s2
          | xc a c x =>
            obtain ⟨g1, c, fs, g2, g3⟩ := s2
            subst g2
            show RdN K mg (InL I) H F _ _
            unfold RdN
            rw [if_neg (show ¬ cellD (.exc c fs) = true from fun h => nomatch h)]
            simp only [rep]
            exact ⟨_, g1⟩
          | own => exact cell rfl s2
          | io q => exact cell rfl s2.2.2
          | brw => exact rdI s2
    | io =>
      cases a <;> simp only [okA, Bool.and_eq_true] at h <;> first | (cases h; done) | skip
      rename_i i
      simp only [ioCells, Bool.and_eq_true] at hc
      have hi : i ∈ ios := by simpa using h.1
      obtain ⟨md, m1, m2⟩ := hm i hi
      have hd := gv_ok (show gv ρ i = .ok d from k1)
      obtain ⟨p, o, s1, s2, s3, s4⟩ := r.ownAt m1 m2 hd hc.1
      have h3 : Rdd K mg H F v d ∧ σ[i]? = some (some v) := h3
      have ee := h3.2
      rw [s1] at ee; cases ee
      refine ⟨_, w, d, e, rfl, rfl, ⟨p, rfl, hs p (by simp [ioAd]), hc.1, ?_⟩, pass h.2 hc.2 (fun q hq => hs q (by simp only [ioAd, List.mem_cons]; exact .inr hq))⟩
      unfold Cell
      rw [if_pos hc.1]
      exact ⟨p, o, rfl, s2, s3, s4⟩
/-- behind a call -/
theorem after_call {is : List Nat} {ad : List Addr} {outs : List D} (r : Rel K mg Γ ρ σ H F) (fe : FEvo ad H F H' F') (bk : IoBack K mg ad outs H' F') (hl : ad.length = is.length)
    (ho : ∀ (k i : Nat), is[k]? = some i → ∃ p, ad[k]? = some p ∧ OwnAt Γ ρ σ i p) :
    Rel K mg Γ (setOuts is outs ρ) σ H' F' ∧ Own Γ (setOuts is outs ρ) σ = Own Γ ρ σ ∧ Evo (Own Γ ρ σ) H F (Own Γ ρ σ) H' F' := by
  have lo : outs.length = is.length := bk.1.trans hl
  have inI : ∀ {i : Nat} {p : Addr}, i ∈ is → OwnAt Γ ρ σ i p → ∃ k, is[k]? = some i ∧ ad[k]? = some p := fun {i p} hi hp => by
    obtain ⟨k, hk⟩ := List.getElem?_of_mem hi
    obtain ⟨q, h1, h2⟩ := ho k i hk
    obtain ⟨_, _, _, _, _, _, e1⟩ := hp
    obtain ⟨_, _, _, _, _, _, e2⟩ := h2
    rw [e1] at e2; cases e2
    exact ⟨k, hk, h1⟩
  have adO : ∀ p ∈ ad, ∃ i ∈ is, OwnAt Γ ρ σ i p := fun p hp => by
    obtain ⟨k, hk⟩ := List.getElem?_of_mem hp
    have hk' : k < is.length := by
      rw [← hl]
      rcases Nat.lt_or_ge k ad.length with q | q
      · exact q
      · rw [List.getElem?_eq_none q] at hk; cases hk
    obtain ⟨q, h1, h2⟩ := ho k _ (List.getElem?_eq_getElem hk')
    rw [hk] at h1; cases h1
    exact ⟨_, List.getElem_mem hk', h2⟩
  have isL : ∀ {j : Nat}, j ∈ is → j < ρ.length := fun {j} hj => by
    obtain ⟨k, hk⟩ := List.getElem?_of_mem hj
    obtain ⟨p, _, m, d, _, _, h, _⟩ := ho k j hk
    rcases Nat.lt_or_ge j ρ.length with q | q
    · exact q
    · rw [List.getElem?_eq_none q] at h; cases h
  have isO : ∀ {j : Nat}, j ∈ is → ∃ p, OwnAt Γ ρ σ j p := fun {j} hj => by
    obtain ⟨k, hk⟩ := List.getElem?_of_mem hj
    obtain ⟨p, _, h⟩ := ho k j hk
    exact ⟨p, h⟩
  have own : ∀ {j : Nat} {p : Addr}, OwnAt Γ (setOuts is outs ρ) σ j p ↔ OwnAt Γ ρ σ j p := fun {j p} => by
    by_cases hj : j ∈ is
    · obtain ⟨k, d, k1, k2, k3⟩ := setOuts_in (ρ := ρ) hj lo (isL hj)
      obtain ⟨q, hq1, hq⟩ := ho k j k1
      obtain ⟨c1, c2⟩ := bk.2 k q d hq1 k2
      obtain ⟨m, d0, a1, a2, a3, a4, a5⟩ := hq
      constructor
      · rintro ⟨m', d', b1, b2, b3, b4, b5⟩
        exact ⟨m, d0, a1, a2, a3, a4, b5⟩
      · rintro ⟨m', d', b1, b2, b3, b4, b5⟩
        exact ⟨m, d, a1, a2, k3, c1, b5⟩
    · constructor
      · rintro ⟨m', d', b1, b2, b3, b4, b5⟩
        rw [setOuts_out hj] at b3
        exact ⟨m', d', b1, b2, b3, b4, b5⟩
      · rintro ⟨m', d', b1, b2, b3, b4, b5⟩
        exact ⟨m', d', b1, b2, by rw [setOuts_out hj]; exact b3, b4, b5⟩
  have brw : ∀ {j : Nat} {p : Addr}, BrwAt Γ (setOuts is outs ρ) σ j p ↔ BrwAt Γ ρ σ j p := fun {j p} => by
    have nj : Γ[j]? = some .brw → j ∉ is := fun h hj => by
      obtain ⟨p, m, d, a1, a2, _⟩ := isO hj
      rw [h] at a1; cases a1; cases a2
    constructor
    · rintro ⟨d', b1, b3, b4, b5⟩
      rw [setOuts_out (nj b1)] at b3
      exact ⟨d', b1, b3, b4, b5⟩
    · rintro ⟨d', b1, b3, b4, b5⟩
      exact ⟨d', b1, by rw [setOuts_out (nj b1)]; exact b3, b4, b5⟩
  have eo : Own Γ (setOuts is outs ρ) σ = Own Γ ρ σ := by
    unfold Own
    congr 1
    · funext p; exact propext ⟨fun ⟨j, h⟩ => ⟨j, own.mp h⟩, fun ⟨j, h⟩ => ⟨j, own.mpr h⟩⟩
    · funext j p; exact propext brw
  have ev : Evo (Own Γ ρ σ) H F (Own Γ ρ σ) H' F' := ⟨fe.sf, fe.sh, fun p o h1 h2 h3 => fe.kp p o h1 h2 fun z => by
    obtain ⟨i, _, hi⟩ := adO p z
    exact h3 ⟨i, hi⟩, fe.dom, fun p h => .inl h, fun _ _ h => h⟩
  refine ⟨⟨by rw [setOuts_length]; exact r.lr, r.lg, fun j m d g1 g2 => ?_, fun a b p ga gb => r.inj a b p (own.mp ga) (own.mp gb), fe.sh⟩, eo, ev⟩
  rw [eo]
  by_cases hj : j ∈ is
  · obtain ⟨k, d', k1, k2, k3⟩ := setOuts_in (ρ := ρ) hj lo (isL hj)
    rw [k3] at g2; cases g2
    obtain ⟨q, hq1, m0, d0, a1, a2, a3, a4, a5⟩ := ho k j k1
    obtain ⟨c1, c2⟩ := bk.2 k q d hq1 k2
    rw [g1] at a1; cases a1
    refine ⟨_, a5, ?_⟩
    cases m with
    | own => exact c2
    | io q' =>
      obtain ⟨v, s1, s2⟩ := r.slot j _ d0 g1 a3
      rw [a5] at s1; cases s1
      exact ⟨s2.1, c1, c2⟩
    | fz => cases a2
    | brw => cases a2
    | xc a c x => cases a2
  · rw [setOuts_out hj] at g2
    obtain ⟨v, s1, s2⟩ := r.slot j m d g1 g2
    refine ⟨v, s1, ?_⟩
    have cell : m.mut = true → Cell K mg H F v d → Cell K mg H' F' v d := fun mu c => by
      unfold Cell at c ⊢
      split
      · rename_i hc
        rw [if_pos hc] at c
        obtain ⟨p, o, e1, e2, e3, e4⟩ := c
        subst e1
        obtain ⟨f1, f2⟩ := fe.kp p o e2 e4 fun z => by
          obtain ⟨i, hi, oi⟩ := adO p z
          have := r.inj j i p ⟨m, d, g1, mu, g2, hc, s1⟩ oi
          subst this
          exact hj hi
        exact ⟨p, o, rfl, f1, cont_mono fe.sf e3, f2⟩
      · rename_i hc
        rw [if_neg hc] at c
        exact rep_mono fe.sf c
    cases m with
    | fz => exact rep_mono fe.sf s2
    | xc a c x => exact xc_mono fe.sf s2
    | own => exact cell rfl s2
    | io q => exact ⟨s2.1, s2.2.1, cell rfl s2.2.2⟩
    | brw =>
      have s2 : RdN K mg (Own Γ ρ σ) H F v d := s2
      exact s2.evo ev
end
section
variable {X : Cx} {Γ Γ' Γ1 Γ2 Γ3 : Gm} {S : SC} {W : WE} {e : Expr} {es : List Expr} {p pos : Pos} {m rm : Md} {ev : Ev} {as : List Arg} {k : Nat} {f : Addr} {fd : FuncData} {ps : List Str} {x : Str} {pms : List PM} {fe : Fe} {CX : CXT} {EX : XW} {E : XK}
/-- a call of a def -/
theorem call_fn_tr (hok : okA (ioSl as) pms as = true) (hnd : (ioSl as).Nodup) (hm : ∀ i ∈ ioSl as, ∃ m, Γ'[i]? = some m ∧ m.mut = true)
    {σ : St} (hE : ∀ y H F ρ, (∀ H' F' O', Evo (Own Γ' ρ σ) H F O' H' F' → W y σ H' F') → ∀ ad H' F', Evo (Own Γ' ρ σ) H F (Own Γ' ρ σ) H' F' → FEvo ad H F H' F' → EX y H' F' E) {H : Hp} {Q : VK} (h : trE X Γ Γ' W rm (eFn pms fe as) σ H Q) (hrm : rm = .own ∨ rm = .fz) :
    trA X Γ Γ' W as σ H fun vs H1 => spFn X.K X.mg pms rm fe EX vs H1 Q E := by
  obtain ⟨ρ, F, r, q⟩ := h
  refine ⟨ρ, F, r, Res.sat_imp (Res.sat_bind.mp q) (fun z _ q vs H1 F1 e1 r1 b1 => ?_) fun _ h => h⟩
  obtain ⟨ds, hds, q⟩ := fins_sat q
  by_cases hc : ioCells pms ds = true
  · rw [if_pos hc] at q
    have af := b1.fin r1 hds
    obtain ⟨l1, l2, l3⟩ := args_io r1 hm hok af hds hc
    have l3' : ∀ (k i : Nat), (ioSl as)[k]? = some i → ∃ p, (ioAd pms vs)[k]? = some p ∧ OwnAt Γ' z.2 σ i p := fun k i h => (l3 k i h).2
    have adO : ∀ p ∈ ioAd pms vs, ∃ i ∈ ioSl as, OwnAt Γ' z.2 σ i p := fun p hp => by
      obtain ⟨k, hk⟩ := List.getElem?_of_mem hp
      have hk' : k < (ioSl as).length := by
        rw [← l2]
        rcases Nat.lt_or_ge k (ioAd pms vs).length with q | q
        · exact q
        · rw [List.getElem?_eq_none q] at hk; cases hk
      obtain ⟨q, h1, h2⟩ := l3' k _ (List.getElem?_eq_getElem hk')
      rw [hk] at h1; cases h1
      exact ⟨_, List.getElem_mem hk', h2⟩
    have nd : (ioAd pms vs).Nodup := by
      refine List.pairwise_iff_getElem.mpr fun i j hi hj hij e => ?_
      have a1 : i < (ioSl as).length := by omega
      have a2 : j < (ioSl as).length := by omega
      obtain ⟨p, h1, h2⟩ := l3' i _ (List.getElem?_eq_getElem a1)
      obtain ⟨q, h3, h4⟩ := l3' j _ (List.getElem?_eq_getElem a2)
      rw [List.getElem?_eq_getElem hi] at h1
      rw [List.getElem?_eq_getElem hj] at h3
      cases h1; cases h3
      rw [e] at h2
      exact (List.pairwise_iff_getElem.mp hnd) i j a1 a2 hij (r1.inj _ _ _ h2 h4)
    refine ⟨l1, F1, ds, r1.sub, args_ok r1 hm adO hok af hds hc fun _ h => h, nd, Res.sat_imp (Res.sat_bind.mp q) (fun w _ q v H' F' fe bk rv => ?_) fun y hy H' F' fv => ?_⟩
    · obtain ⟨r2, o2, e2⟩ := after_call r1 fe bk l2 l3'
      refine q v H' F' (by rw [o2]; exact e1.trans e2) r2 ?_
      rcases hrm with rfl | rfl
      · refine ⟨rv.1, fun c p z => ?_⟩
        have n1 := rv.2 c p z
        refine ⟨e1.dom p n1, fun h => ?_⟩
        rw [o2] at h
        obtain ⟨o, ho, _⟩ := Own.there r1 h
        rw [n1] at ho; cases ho
      · exact rv
    · refine hE y H1 F1 z.2 (fun H2 F2 O2 e2 => hy H2 F2 O2 (e1.trans e2)) (ioAd pms vs) H' F' ?_ fv
      exact ⟨fv.sf, fv.sh, fun p o h1 h2 h3 => fv.kp p o h1 h2 fun z => by
        obtain ⟨i, _, hi⟩ := adO p z
        exact h3 ⟨i, hi⟩, fv.dom, fun p h => .inl h, fun _ _ h => h⟩
  · rw [if_neg hc] at q; exact q.elim
theorem ve_call (G : FnOk X.prog X.w X.K X.mg X.base CX k f fd ps (spFn X.K X.mg pms rm fe EX)) (hr : Room k X.A) (hg : Gl X x) (hmg : X.mg x = some (.ref f)) (hk : PySem.W.keepIn X.K (.ref f) = true) (hb : Binds X.K fd ps []) (hx : Passes CX X E)
    (hE : ∀ y σ H F ρ, (∀ H' F' O', Evo (Own Γ' ρ σ) H F O' H' F' → W y σ H' F') → ∀ ad H' F', Evo (Own Γ' ρ σ) H F (Own Γ' ρ σ) H' F' → FEvo ad H F H' F' → EX y H' F' E)
    (hrm : rm = .own ∨ rm = .fz) (ha : VA X Γ Γ' W (e :: es) as) (hok : okA (ioSl as) pms as = true) (hnd : (ioSl as).Nodup) (hm : ∀ i ∈ ioSl as, ∃ m, Γ'[i]? = some m ∧ m.mut = true)
    (hp : ∀ {t : TA}, PA X (e :: es) t → PE X (.Call (.Name x p) (e :: es) [] pos) (tCall (spFn X.K X.mg pms rm fe EX) [] E t)) :
    VE X Γ Γ' W (.Call (.Name x p) (e :: es) [] pos) rm (eFn pms fe as) :=
  peImp (hp ha) fun σ H Q h => trA_mono (call_fn_tr hok hnd hm (fun y H F ρ => hE y σ H F ρ) h hrm) fun vs H1 q => by rw [List.append_nil]; exact q
end
end VL

set_option Elab.async false
set_option linter.all false
set_option maxRecDepth 100000
/-! VL12: more built-ins; modes given up; short forms for the printed derivations. -/
namespace VL
open PySem PySem.Spec PyProof.Rows L2

abbrev EX0 : XW := fun _ _ _ _ => True
def mutAll (Γ : Gm) (is : List Nat) : Bool := is.all fun i => match Γ[i]? with
  | some m => m.mut
  | none => false
theorem mutAll_ok {Γ : Gm} {is : List Nat} (h : mutAll Γ is = true) : ∀ i ∈ is, ∃ m, Γ[i]? = some m ∧ m.mut = true := fun i hi => by
  have := List.all_eq_true.mp h i hi
  cases e : Γ[i]? with
  | none => rw [e] at this; cases this
  | some m => rw [e] at this; exact ⟨m, rfl, this⟩
section
variable {X : Cx} {Γ Γ' Γ1 Γ2 Γ3 : Gm} {S : SC} {W : WE} {st : Stmt} {sts : List Stmt} {e o a b c : Expr} {es : List Expr} {p pos apos cpos : Pos} {m rm : Md} {ev : Ev} {et : Et} {eb : Es} {as : List Arg} {x : Str} {pms : List PM} {fe : Fe} {ar : Arg}
/-- a call of a def that lets no exception out -/
theorem ve_call0 (hrm : rm = .own ∨ rm = .fz) (ha : VA X Γ Γ' W (e :: es) as) (hok : okA (ioSl as) pms as = true) (hnd : (ioSl as).Nodup) (hm : mutAll Γ' (ioSl as) = true)
    (hp : ∀ {t : TA}, PA X (e :: es) t → PE X (.Call (.Name x p) (e :: es) [] pos) (tCall (spFn X.K X.mg pms rm fe EX0) [] E0 t)) :
    VE X Γ Γ' W (.Call (.Name x p) (e :: es) [] pos) rm (eFn pms fe as) :=
  peImp (hp ha) fun σ H Q h => trA_mono (call_fn_tr hok hnd (mutAll_ok hm) (fun _ _ _ _ _ _ _ _ _ _ => trivial) h hrm) fun vs H1 q => by rw [List.append_nil]; exact q
def eFn0 (fe : Fe) : Ev := fun ρ => (fe []).bind fun r => .ok (r.1, ρ)
theorem ve_call00 (hrm : rm = .own ∨ rm = .fz) (hp : PE X (.Call (.Name x p) [] [] pos) (tCall (spFn X.K X.mg [] rm fe EX0) [] E0 tNil)) : VE X Γ Γ W (.Call (.Name x p) [] [] pos) rm (eFn0 fe) :=
  peImp hp fun σ H Q ⟨ρ, F, r, q⟩ => by
    have key : trE X Γ Γ W rm (eFn [] fe []) σ H Q := ⟨ρ, F, r, q⟩
    have h := call_fn_tr (as := []) (pms := []) (fe := fe) (EX := EX0) (E := E0) rfl List.nodup_nil (fun _ h => by cases h) (fun _ _ _ _ _ _ _ _ _ _ => trivial) key hrm
    obtain ⟨ρ2, F2, r2, q2⟩ := h
    exact q2 [] H F2 (Evo.refl r2.sub) r2 ⟨rfl, rfl⟩
/-! ### a slot's object given up for good -/
theorem Rel.giveUp {K : PySem.W.Frag} {mg : Str → Option Value} {ρ : Env} {σ : St} {H F : Hp} {i : Nat} (r : Rel K mg Γ ρ σ H F) (hm : Γ[i]? = some .own) :
    ∃ F', Rel K mg (Γ.set i .fz) ρ σ H F' ∧ Evo (Own Γ ρ σ) H F (Own (Γ.set i .fz) ρ σ) H F' := by
  rcases h : ρ[i]? with _ | _ | d
  · exact ⟨F, ⟨r.lr, by rw [List.length_set]; exact r.lg, fun j m' d g1 g2 => by
      rcases set_get g1 with ⟨e, _, _⟩ | ⟨e, g1⟩
      · subst e; rw [h] at g2; cases g2
      · obtain ⟨v, k1, k2⟩ := r.slot j m' d g1 g2
        refine ⟨v, k1, ?_⟩
        cases m' with
        | brw => exact RdN.evo k2 ((Evo.refl r.sub).mono (fun _ z => z) (fun p z => .inl (Own.of_set rfl z)) fun _ _ z => z.of_set (by intro e; cases e))
        | _ => exact k2, fun a b q g1 g2 => r.inj a b q (g1.of_set rfl).1 (g2.of_set rfl).1, r.sub⟩,
      (Evo.refl r.sub).mono (fun _ z => z) (fun p z => .inl (Own.of_set rfl z)) fun _ _ z => z.of_set (by intro e; cases e)⟩
  · exact ⟨F, ⟨r.lr, by rw [List.length_set]; exact r.lg, fun j m' d g1 g2 => by
      rcases set_get g1 with ⟨e, _, _⟩ | ⟨e, g1⟩
      · subst e; rw [h] at g2; cases g2
      · obtain ⟨v, k1, k2⟩ := r.slot j m' d g1 g2
        refine ⟨v, k1, ?_⟩
        cases m' with
        | brw => exact RdN.evo k2 ((Evo.refl r.sub).mono (fun _ z => z) (fun p z => .inl (Own.of_set rfl z)) fun _ _ z => z.of_set (by intro e; cases e))
        | _ => exact k2, fun a b q g1 g2 => r.inj a b q (g1.of_set rfl).1 (g2.of_set rfl).1, r.sub⟩,
      (Evo.refl r.sub).mono (fun _ z => z) (fun p z => .inl (Own.of_set rfl z)) fun _ _ z => z.of_set (by intro e; cases e)⟩
  · obtain ⟨v, F', _, _, h3, h4⟩ := r.frzAt hm h
    exact ⟨F', h3, h4⟩
/-- .. ahead of a statement -/
theorem vs_pre {i : Nat} (hm : Γ[i]? = some .own) (h : VS X (Γ.set i .fz) Γ' S W st eb) : VS X Γ Γ' S W st eb :=
  psImp h fun D σ H ⟨ρ, F, r, q⟩ => by
    obtain ⟨F', r2, e2⟩ := r.giveUp hm
    exact ⟨ρ, F', r2, Res.sat_imp q (fun fl _ q => q.evo e2 Keep.refl) fun _ h => h.evo e2 Keep.refl⟩
theorem vss_pre {i : Nat} (hm : Γ[i]? = some .own) (h : VSs X (Γ.set i .fz) Γ' S W sts eb) : VSs X Γ Γ' S W sts eb :=
  pssImp h fun D σ H ⟨ρ, F, r, q⟩ => by
    obtain ⟨F', r2, e2⟩ := r.giveUp hm
    exact ⟨ρ, F', r2, Res.sat_imp q (fun fl _ q => q.evo e2 Keep.refl) fun _ h => h.evo e2 Keep.refl⟩
/-- .. behind a block -/
theorem vss_post {i : Nat} (h : VSs X Γ Γ' S W sts eb) (hm : Γ'[i]? = some .own) : VSs X Γ (Γ'.set i .fz) S W sts eb :=
  pssImp h fun D σ H ⟨ρ, F, r, q⟩ => ⟨ρ, F, r, Res.sat_imp q (fun fl _ q => by
    cases fl with
    | next ρ' =>
      intro σ' H' F' ee k r1
      obtain ⟨F2, r2, e2⟩ := r1.giveUp hm
      exact q σ' H' F2 (ee.trans e2) k r2
    | brk ρ' => exact q
    | cont ρ' => exact q
    | ret d ρ' => exact q) fun _ h => h⟩
/-! ### join -/
def strsOf : List D → Option (List (List Nat))
  | [] => some []
  | .str l :: r => (strsOf r).map (l :: ·)
  | _ :: _ => none
theorem strsOf_ok : ∀ {l : List D} {ns : List (List Nat)}, strsOf l = some ns → l = ns.map D.str
  | [], _, h => by cases h; rfl
  | d :: r, ns, h => by
    cases d <;> simp only [strsOf] at h <;> first | (cases h; done) | skip
    cases hr : strsOf r with
    | none => rw [hr] at h; cases h
    | some k => rw [hr] at h; cases h; rw [strsOf_ok hr]; rfl
@[simp] theorem strsOf_map (ns : List (List Nat)) : strsOf (ns.map D.str) = some ns := by
  induction ns with
  | nil => rfl
  | cons n ns ih => simp only [List.map_cons, strsOf, ih, Option.map_some]
theorem reps_strs {K : PySem.W.Frag} {mg : Str → Option Value} {F : Hp} : ∀ {ns : List (List Nat)} {vs : List V}, reps K mg F (ns.map D.str) vs → vs = ns.map fun l => V.str ⟨l.toArray⟩
  | [], _, h => by simpa only [reps, List.map_nil] using h
  | n :: ns, _, h => by
    simp only [List.map_cons, reps] at h
    obtain ⟨v, r, rfl, h1, h2⟩ := h
    simp only [rep] at h1
    subst h1
    rw [reps_strs h2, List.map_cons]
def fJoin (sep : List Nat) : List D → Option D
  | [.lst l] => (strsOf l).bind fun ns => if (ns.map List.length).sum + ns.length * sep.length ≤ 16777216 then some (.str (TL.joinL sep ns)) else none
  | [.tup l] => (strsOf l).bind fun ns => if (ns.map List.length).sum + ns.length * sep.length ≤ 16777216 then some (.str (TL.joinL sep ns)) else none
  | _ => none
theorem ve_join {sep : List Nat} {z : Str} (hz : z = ⟨sep.toArray⟩) {j : Nat} {cp : Pos} (ha : VA X Γ Γ' W (e :: es) as)
    (hp : ∀ {t : TA}, PA X (e :: es) t → PE X (.Call (.Attribute (.Constant (.str z) j cp) "join" apos) (e :: es) [] cpos) (tBM X.K "str" (fun x xs H Q => ∃ a p, ∃ ys : List Str, x = .str a ∧ xs = [.ref p] ∧ (SqL X.K H p (ys.map V.str) ∨ SqT X.K H p (ys.map V.str)) ∧
    (ys.map (·.length)).sum + ys.length * a.length ≤ 16777216 ∧ Q (.str (Txt.join a ys)) H) (tC (.str z)) t)) :
    VE X Γ Γ' W (.Call (.Attribute (.Constant (.str z) j cp) "join" apos) (e :: es) [] cpos) .fz (eCall (fJoin sep) as) :=
  peImp (hp ha) fun σ H Q h => by
    refine ⟨rfl, call_tr (r := fun xs H Q => ∃ a p, ∃ ys : List Str, V.str z = .str a ∧ xs = [.ref p] ∧ (SqL X.K H p (ys.map V.str) ∨ SqT X.K H p (ys.map V.str)) ∧
      (ys.map (·.length)).sum + ys.length * a.length ≤ 16777216 ∧ Q (.str (Txt.join a ys)) H) (fun H F vs ds d Q s r hf q => ?_) h⟩
    subst hz
    have fin : ∀ ns : List (List Nat), (ns.map List.length).sum + ns.length * sep.length ≤ 16777216 → ((ns.map fun l : List Nat => (⟨l.toArray⟩ : Str)).map (·.length)).sum + (ns.map fun l : List Nat => (⟨l.toArray⟩ : Str)).length * (⟨sep.toArray⟩ : Str).length ≤ 16777216 ∧ Txt.join ⟨sep.toArray⟩ (ns.map fun l : List Nat => (⟨l.toArray⟩ : Str)) = ⟨(TL.joinL sep ns).toArray⟩ := fun ns h => by
      refine ⟨?_, ?_⟩
      · rw [List.map_map, List.length_map]
        have : ((fun x : Str => x.length) ∘ fun l : List Nat => (⟨l.toArray⟩ : Str)) = List.length := by funext l; simp [Str.length]
        rw [this]
        simpa [Str.length] using h
      · rw [TL.join_eq]
        have h1 := TL.tl_join ⟨sep.toArray⟩ (ns.map fun l : List Nat => (⟨l.toArray⟩ : Str))
        rw [List.map_map] at h1
        have : (TL.tl ∘ fun l : List Nat => (⟨l.toArray⟩ : Str)) = id := by funext l; rfl
        rw [this, List.map_id] at h1
        have h2 : ∀ y : Str, y = ⟨(TL.tl y).toArray⟩ := fun y => by cases y; simp [TL.tl]
        rw [h2 (Str.join _ _), h1]
    unfold fJoin at hf
    split at hf
    · rename_i l
      cases hn : strsOf l with
      | none => rw [hn] at hf; cases hf
      | some ns =>
        rw [hn] at hf
        simp only [Option.bind_some] at hf
        split at hf <;> cases hf
        rename_i hl
        have e := strsOf_ok hn
        subst e
        obtain ⟨v, w, rfl, h1, rfl⟩ := r
        obtain ⟨p, vs, rfl, h2, h3⟩ := h1.lst
        rw [reps_strs h3] at h2
        obtain ⟨f1, f2⟩ := fin ns hl
        refine ⟨_, p, ns.map fun l : List Nat => (⟨l.toArray⟩ : Str), rfl, rfl, .inl (by rw [List.map_map]; exact .of h2), f1, ?_⟩
        rw [f2]
        exact q _ H F (Grow.refl s) (.atom rfl (by simp only [rep]))
    · rename_i l
      cases hn : strsOf l with
      | none => rw [hn] at hf; cases hf
      | some ns =>
        rw [hn] at hf
        simp only [Option.bind_some] at hf
        split at hf <;> cases hf
        rename_i hl
        have e := strsOf_ok hn
        subst e
        obtain ⟨v, w, rfl, h1, rfl⟩ := r
        obtain ⟨p, vs, rfl, h2, h3⟩ := h1.tup
        rw [reps_strs h3] at h2
        obtain ⟨f1, f2⟩ := fin ns hl
        refine ⟨_, p, ns.map fun l : List Nat => (⟨l.toArray⟩ : Str), rfl, rfl, .inr (by rw [List.map_map]; exact Same.sqT s h2), f1, ?_⟩
        rw [f2]
        exact q _ H F (Grow.refl s) (.atom rfl (by simp only [rep]))
    · cases hf
/-! ### isinstance of a built-in class -/
def tyD : D → Option String
  | .non => some "NoneType"
  | .bl _ => some "bool"
  | .int _ => some "int"
  | .str _ => some "str"
  | .tup _ => some "tuple"
  | .lst _ => some "list"
  | .dct _ => some "dict"
  | _ => none
def isiB (t T : String) : Bool := t == T || (t == "bool" && T == "int")
def fIsi (T : String) : List D → Option D
  | [d, _] => (tyD d).map fun t => .bl (isiB t T)
  | _ => none
theorem rdd_ty {K : PySem.W.Frag} {mg : Str → Option Value} {H F : Hp} {v : V} {d : D} {t : String} (s : Same F H) (r : Rdd K mg H F v d) (h : tyD d = some t) : TyX K H v (.type t) := by
  cases d <;> simp only [tyD] at h <;> first | (cases h; done) | skip
  · cases h; rw [r.non]; exact .base .non
  · cases h; rw [r.bl]; exact .base (.bl _)
  · cases h; rw [r.int]; exact .base (.int _)
  · cases h; rw [r.str]; exact .base (.str _)
  · cases h
    obtain ⟨p, vs, rfl, h1, h2⟩ := r.tup
    rcases Same.sqT s h1 with (h | ⟨o, h⟩) | ⟨o, its, n, h, h3, _⟩
    · exact .base (.tup h)
    · exact .fTuple h
    · exact .kTuple h h3
  · cases h
    obtain ⟨p, vs, rfl, h1, h2⟩ := r.lst
    exact .base (.lst h1)
  · cases h
    unfold Rdd at r
    rw [if_pos (show cellD (.dct _) = true from rfl)] at r
    obtain ⟨p, o, rfl, h1, xs, rfl, h2⟩ := r
    exact .base (.dK h1)
/-- the class that is asked for, as a value that nothing reads -/
def eTy : Ev := fun ρ => .ok (.non, ρ)
def trTy (X : Cx) (Γ Γ' : Gm) (W : WE) (o : Opd) (T : String) : TA := fun σ H Q => trB X Γ Γ' W o σ H fun v H1 => Q [v, .ty T] H1
theorem ve_isi {o' : Opd} {T : String} (hb : ∀ t ∈ ["NoneType", "bool", "int", "str", "tuple", "list", "dict"], kitB t T = some (isiB t T)) (hT : ClsV (.ty T) (.type T))
    (ha : VB X Γ Γ' W a o') (hp : ∀ {t : TE}, PE X a t → PE X (.Call (.Name x p) [a, b] [] pos) (tCB (rIsi X.K) (tCons t (tCons (tC (.ty T)) tNil)))) :
    VE X Γ Γ' W (.Call (.Name x p) [a, b] [] pos) .fz (eCall (fIsi T) [.bor o', .val eTy]) :=
  peImp (hp ha) fun σ H Q ⟨ρ, F, r, q⟩ => ⟨ρ, F, r, by
    have q := Res.sat_bind.mp q
    have q := Res.sat_bind.mp q
    refine Res.sat_imp q (fun z _ q v H1 F1 e1 r1 b1 => ?_) fun _ h => h
    have q : ((Arg.fins [Arg.bor o', Arg.val eTy] [z.1, some .non] z.2).bind fun ds => (opt (fIsi T ds)).bind fun d => Res.ok (d, z.2)).sat _ _ := q
    obtain ⟨ds, hds, q⟩ := fins_sat q
    obtain ⟨d, hd, hds⟩ : ∃ d, o'.fin z.1 z.2 = .ok d ∧ ds = [d, .non] := by
      unfold Arg.fins at hds
      cases h : (Arg.bor o').fin z.1 z.2 with
      | exn x => exact (Arg.fin_exn h).elim
      | bad => rw [h] at hds; cases hds
      | ok d => rw [h] at hds; exact ⟨d, h, by cases hds; rfl⟩
    subst hds
    have ef : fIsi T [d, .non] = (tyD d).map fun t => .bl (isiB t T) := rfl
    rw [ef] at q
    cases ht : tyD d with
    | none => rw [ht] at q; exact q.elim
    | some t =>
      rw [ht] at q
      have ty := rdd_ty r1.sub (b1.fin r1 (Evo.refl r1.sub) hd) ht
      have mem : t ∈ ["NoneType", "bool", "int", "str", "tuple", "list", "dict"] := by
        cases d <;> simp only [tyD] at ht <;> first | (cases ht; done) | (cases ht; simp)
      exact ⟨v, .ty T, .type t, .type T, isiB t T, rfl, hT, ty, kit_ty (hb t mem), q _ H1 F1 e1 r1 rfl⟩⟩
end
end VL

set_option Elab.async false
set_option linter.all false
set_option maxRecDepth 100000
/-! VL13: chains of comparisons, the module's constants, sorted. -/
namespace VL
open PySem PySem.Spec PyProof.Rows L2

def eChain (f f' : D → D → Option D) (oa ob oc : Opd) : Ev := fun ρ => (oa.run ρ).bind fun p => (ob.run p.2).bind fun s => (oa.fin p.1 s.2).bind fun dx => (ob.fin s.1 s.2).bind fun dy => (opt (f dx dy)).bind fun d => match d with
  | .bl true => (oc.run s.2).bind fun t => (ob.fin s.1 t.2).bind fun dy => (oc.fin t.1 t.2).bind fun dz => (opt (f' dy dz)).bind fun d => .ok (d, t.2)
  | .bl false => .ok (.bl false, s.2)
  | _ => .bad
section
variable {X : Cx} {Γ Γ' Γ1 Γ2 Γ3 : Gm} {W : WE} {e a b c : Expr} {pos : Pos} {m : Md} {ev : Ev} {et : Et} {oa ob oc : Opd} {f f' : D → D → Option D} {r r' : R2}
theorem BOk.evo {K : PySem.W.Frag} {mg : Str → Option Value} {o : Opd} {od : Option D} {O O' : Ft} {σ : St} {H F H' F' : Hp} {v : V} (b : BOk K mg o od O σ H F v) (e : Evo O H F O' H' F') : BOk K mg o od O' σ H' F' v := by
  cases o with
  | slot i => exact b
  | ex f => cases od with
    | none => exact b
    | some d => exact RdN.evo b e
theorem chain_tr (hf : OpF X.K X.mg f r .fz) (hf' : OpF X.K X.mg f' r' .fz) {σ : St} {H : Hp} {Q : VK} (h : trE X Γ Γ2 W .fz (eChain f f' oa ob oc) σ H Q) :
    tChain r r' (trB X Γ Γ1 W oa) (trB X Γ1 Γ2 W ob) (trB X Γ2 Γ2 W oc) σ H Q := by
  obtain ⟨ρ, F, rl, q⟩ := h
  refine ⟨ρ, F, rl, Res.sat_imp (Res.sat_bind.mp q) (fun p _ q x H1 F1 e1 r1 b1 => ⟨p.2, F1, r1, Res.sat_imp (Res.sat_bind.mp q) (fun s _ q y H2 F2 e2 r2 b2 => ?_) fun _ h => h.evo e1⟩) fun _ h => h⟩
  obtain ⟨dx, hx, q⟩ := fin_sat q
  obtain ⟨dy, hy, q⟩ := fin_sat q
  obtain ⟨d, hd, q⟩ := opt_sat (Res.sat_bind.mp q)
  refine hf H2 F2 x y dx dy d _ r2.sub (b1.fin r2 e2 hx) (b2.fin r2 (Evo.refl r2.sub) hy) hd fun u H3 F3 g n => ?_
  cases d <;> first | exact q.elim | skip
  rename_i k
  have n : u = .bl k := n
  subst n
  refine ⟨k, rfl, ?_⟩
  have e13 := (e1.trans e2).trans g.evo
  have r3 := r2.grow g
  have b3 := b2.evo g.evo
  cases k with
  | false =>
    rw [if_neg (by decide)]
    exact q _ H3 F3 e13 r3 rfl
  | true =>
    rw [if_pos rfl]
    refine ⟨s.2, F3, r3, Res.sat_imp (Res.sat_bind.mp q) (fun t _ q w H4 F4 e4 r4 b4 => ?_) fun _ h => h.evo e13⟩
    obtain ⟨dy', hy', q⟩ := fin_sat q
    obtain ⟨dz, hz, q⟩ := fin_sat q
    obtain ⟨d, hd, q⟩ := opt_sat (Res.sat_bind.mp q)
    exact hf' H4 F4 y w dy' dz d _ r4.sub (b3.fin r4 e4 hy') (b4.fin r4 (Evo.refl r4.sub) hz) hd fun u H5 F5 g5 n5 => q u H5 F5 ((e13.trans e4).trans g5.evo) (r4.grow g5) n5
theorem ve_chain {op op' : CmpOp} (ho : OpR X (compareOp op) r) (ho' : OpR X (compareOp op') r') (hf : OpF X.K X.mg f r .fz) (hf' : OpF X.K X.mg f' r' .fz) (ha : VB X Γ Γ1 W a oa) (hb : VB X Γ1 Γ2 W b ob) (hc : VB X Γ2 Γ2 W c oc)
    (hm : lastMarks [op, op'] [b, c] = false := by with_unfolding_all rfl) : VE X Γ Γ2 W (.Compare a [op, op'] [b, c] pos) .fz (eChain f f' oa ob oc) :=
  peImp (pe_chain ho ho' ha hb hc hm) fun _ _ _ h => chain_tr hf hf' h
theorem vt_chain {op op' : CmpOp} (ho : OpR X (compareOp op) r) (ho' : OpR X (compareOp op') r') (hf : OpF X.K X.mg f r .fz) (hf' : OpF X.K X.mg f' r' .fz) (ha : VB X Γ Γ1 W a oa) (hb : VB X Γ1 Γ2 W b ob) (hc : VB X Γ2 Γ2 W c oc)
    (hm : lastMarks [op, op'] [b, c] = false := by with_unfolding_all rfl) : VT X Γ Γ2 W (.Compare a [op, op'] [b, c] pos) (eTB (eChain f f' oa ob oc)) :=
  ptImp (pt_chain ho ho' ha hb hc hm) fun _ _ _ h => chain_tr hf hf' (trT_of h)
/-! ### constants of the module -/
theorem ve_globI {x : Str} {n : Int} (hg : Gl X x) (h : ∃ t, X.mg x = some (.int n t)) (hd : (x == ("__debug__" : Str)) = false := by decide) : VE X Γ Γ W (.Name x pos) .fz (eC (.int n)) := by
  obtain ⟨t, h⟩ := h
  exact ve_const (v := .int n) (pe_glob hg h ⟨t, rfl⟩ hd) fun _ => rfl
theorem ve_globS {x z : Str} {l : List Nat} (hg : Gl X x) (h : ∃ t, X.mg x = some (.str z t)) (hz : z = ⟨l.toArray⟩) (hd : (x == ("__debug__" : Str)) = false := by decide) : VE X Γ Γ W (.Name x pos) .fz (eC (.str l)) := by
  obtain ⟨t, h⟩ := h
  exact ve_const (v := .str z) (pe_glob hg h ⟨t, rfl⟩ hd) fun _ => by subst hz; simp only [rep]
/-! ### sorted of ints -/
def insI (x : Int) : List Int → List Int
  | [] => [x]
  | y :: r => if x ≤ y then x :: y :: r else y :: insI x r
def sortI : List Int → List Int
  | [] => []
  | x :: r => insI x (sortI r)
theorem insI_perm (x : Int) : ∀ l : List Int, (insI x l).Perm (x :: l)
  | [] => List.Perm.refl _
  | y :: r => by
    unfold insI
    split
    · exact List.Perm.refl _
    · exact ((insI_perm x r).cons y).trans (List.Perm.swap x y r)
theorem sortI_perm : ∀ l : List Int, (sortI l).Perm l
  | [] => List.Perm.refl _
  | x :: r => (insI_perm x _).trans ((sortI_perm r).cons x)
theorem insI_sorted (x : Int) : ∀ l : List Int, l.Pairwise (· ≤ ·) → (insI x l).Pairwise (· ≤ ·)
  | [], _ => List.pairwise_singleton _ _
  | y :: r, h => by
    unfold insI
    rw [List.pairwise_cons] at h
    split
    · rename_i hx
      rw [List.pairwise_cons]
      refine ⟨fun z hz => ?_, List.pairwise_cons.mpr h⟩
      rcases List.mem_cons.mp hz with rfl | hz
      · exact hx
      · exact Int.le_trans hx (h.1 z hz)
    · rename_i hx
      rw [List.pairwise_cons]
      refine ⟨fun z hz => ?_, insI_sorted x r h.2⟩
      rcases List.mem_cons.mp ((insI_perm x r).mem_iff.mp hz) with rfl | hz
      · omega
      · exact h.1 z hz
theorem sortI_sorted : ∀ l : List Int, (sortI l).Pairwise (· ≤ ·)
  | [] => List.Pairwise.nil
  | x :: r => insI_sorted x _ (sortI_sorted r)
theorem sorted_uniq : ∀ {a b : List Int}, a.Perm b → a.Pairwise (· ≤ ·) → b.Pairwise (· ≤ ·) → a = b
  | [], b, p, _, _ => by rw [List.nil_perm.mp p]
  | x :: r, [], p, _, _ => by have := p.length_eq; simp at this
  | x :: r, y :: t, p, ha, hb => by
    rw [List.pairwise_cons] at ha hb
    have e : x = y := by
      have h1 : x ∈ y :: t := p.mem_iff.mp List.mem_cons_self
      have h2 : y ∈ x :: r := p.mem_iff.mpr List.mem_cons_self
      have a1 : x ≤ y := by
        rcases List.mem_cons.mp h2 with h | h
        · omega
        · exact ha.1 y h
      have a2 : y ≤ x := by
        rcases List.mem_cons.mp h1 with h | h
        · omega
        · exact hb.1 x h
      omega
    subst e
    rw [sorted_uniq ((List.perm_cons _).mp p) ha.2 hb.2]
def fSorted : List D → Option D
  | [.lst l] => (intsOf l).map fun ns => .lst ((sortI ns).map .int)
  | _ => none
theorem c_sorted {K : PySem.W.Frag} {mg : Str → Option Value} : CallF K mg fSorted (rSortedI K) .own := by
  intro H F vs ds d Q s r hf q
  unfold fSorted at hf
  split at hf
  · rename_i l
    cases hn : intsOf l with
    | none => rw [hn] at hf; cases hf
    | some ns =>
      rw [hn] at hf; cases hf
      have e := intsOf_ok hn
      subst e
      obtain ⟨v, w, rfl, h1, rfl⟩ := r
      obtain ⟨p, vs, rfl, h2, h3⟩ := h1.lst
      rw [reps_ints h3] at h2
      refine ⟨p, ns, rfl, .of h2, fun ns' n hp hs hn => ?_⟩
      have e : ns' = sortI ns := sorted_uniq (hp.trans (sortI_perm ns).symm) hs (sortI_sorted ns)
      subst e
      exact q _ _ F (Grow.newO s hn) (.newL hn s ints_reps)
  · cases hf
end
end VL
namespace VL
def bigN : Nat := 1048576
end VL
namespace VL
theorem ltB {i n : Nat} (h : Nat.ble (i + 1) n = true) : i < n := Nat.le_of_ble_eq_true h
theorem memB {i : Nat} {l : List Nat} (h : l.elem i = true) : i ∈ l := List.mem_of_elem_eq_true h
def allFz (Γ : Gm) (vs : List Nat) : Bool := vs.all fun v => match Γ[v]? with
  | some .fz => true
  | _ => false
theorem allFz_ok {Γ : Gm} {vs : List Nat} (h : allFz Γ vs = true) : ∀ v ∈ vs, Γ[v]? = some .fz := fun v hv => by
  have := List.all_eq_true.mp h v hv
  cases e : Γ[v]? with
  | none => rw [e] at this; cases this
  | some m => rw [e] at this; cases m <;> first | rfl | cases this
def nodB : List Nat → Bool
  | [] => true
  | x :: r => !r.elem x && nodB r
theorem nodupB : ∀ {l : List Nat}, nodB l = true → l.Nodup
  | [], _ => List.nodup_nil
  | x :: r, h => by
    simp only [nodB, Bool.and_eq_true, Bool.not_eq_true'] at h
    refine List.nodup_cons.mpr ⟨fun hm => ?_, nodupB h.2⟩
    rw [List.elem_eq_true_of_mem hm] at h
    exact absurd h.1 (by decide)
end VL
namespace VL
open PySem PySem.Spec PyProof.Rows L2
/-- the law's promise -/
def spL (K : PySem.W.Frag) : Sp := fun vs H Q _ => ∃ (a : Addr) (ns : List Int), vs = [.ref a] ∧ SqL K H a (ns.map V.int) ∧ ns.length ≤ 63 ∧ ∀ H', Q (.bl true) H'
theorem law_imp {P : Program} {w : World} {K : PySem.W.Frag} {mg : Str → Option Value} {base : Heap} {k : Nat} {f : Addr} {fd : FuncData} {ps : List Str} {rm : Md} {fe : Fe} {pm : PM} (G : FnOk P w K mg base CX0 k f fd ps (spFn K mg [pm] rm fe EX0)) (hpm : pm = .brw ∨ pm = .fz) (hrm : rm = .fz)
    (h : ∀ ns : List Int, ns.length ≤ 63 → ∃ os, fe [.scr ns] = .ok (.bl true, os)) : FnOk P w K mg base CX0 k f fd ps (spL K) :=
  G.imp fun vs H Q E ⟨a, ns, e, hS, hl, q⟩ => by
    subst e hrm
    obtain ⟨os, ho⟩ := h ns hl
    have io : ioAd [pm] [V.ref a] = [] := by rcases hpm with rfl | rfl <;> rfl
    have rp : rep K mg H (.scr ns) (.ref a) := by simp only [rep]; exact ⟨a, rfl, hS⟩
    refine ⟨rfl, H, [.scr ns], Same.refl _, ⟨_, [], _, [], rfl, rfl, ?_, rfl, rfl⟩, by rw [io]; exact List.nodup_nil, ?_⟩
    · rcases hpm with rfl | rfl
      · exact rp.rdN (Same.refl _)
      · exact rp
    · rw [ho]
      intro v H' F' _ _ rv
      have rv : v = .bl true := rv
      subst rv
      exact q H'
end VL

set_option Elab.async false
set_option linter.all false
set_option maxRecDepth 100000
/-! VL14: exceptions: classes with fields, raise, defs that raise, their calls. -/
namespace VL
open PySem PySem.Spec PyProof.Rows L2

/-- C(e, ..) where no exception is handled -/
theorem pmkN_oex {X : Cx} {CX : CXT} {x : Str} {e : Expr} {es : List Expr} {ta : TA} {p pos : Pos} {C fI : Addr} {k : Nat} {fd : FuncData} {ps : List Str} {sp : Sp} (T : OexC X.K C) (iC : PySem.W.findIn X.K (.ref C) "__init__" = some (some (.ref fI))) (tI : PySem.W.typeIn X.K (.ref fI) = some (.type "function"))
    (F1 : FnOk X.prog X.w X.K X.mg X.base CX k fI fd ps sp) (hr : Room (k + 1) X.A) (hb : Binds X.K fd ps []) (hx : Passes CX X (fun _ _ _ => False)) (hg : Gl X x) (hm : X.mg x = some (.ref C)) (ha : PA X (e :: es) ta)
    (hdb : (x == ("__debug__" : Str)) = false := by decide) (he : starEach (e :: es) X.env = (false, eval e X.env) :: starEach es X.env := by rfl) (hpl : (backTo pos (starEach es X.env)).any (·.1) = false := by rfl) :
    L2N.PMk X (.Call (.Name x p) (e :: es) [] pos) (tMkO C sp [] ta) := by
  intro pins s σ H Q I h
  obtain ⟨nm, q, N, bs, bm, sn, sub, ab, col, dd, k0, k1, k2, k3, k5, hC, hbm⟩ := T.cls
  refine wpAny_Call_Name_kw (ld_glob I hg hm ?_ hdb)
  refine PySem.W.callWith_K (h₀ := X.base) I.ok.mod.kin T.kC (thn (ha.run pos pins s σ H _ I h) fun us s1 ⟨vs, H1, I1, r1, hz, q1⟩ => ⟨I1.kIn, ?_⟩) he hpl
  show wpAny _ _ (call (.ref C) us) _ _ _
  obtain ⟨hp, g, dr, tk, os⟩ := s1
  have hsz : hp.objs.size ≤ hp.objs.size + 1 := Nat.le_succ _
  have hn : H1 (hp.objs.size + 1) = none := I1.hok.fresh hsz
  have hq := q1 (hp.objs.size + 1) hn
  rw [List.append_nil] at hq
  have kk : ∀ b o, hp.get? b = some o → ((hp.push (PySem.W.kdv_tup us)).push (PySem.HandSPX.excO C hp.objs.size)).get? b = some o := fun b o e => Heap.get?_push_of_some _ (Heap.get?_push_of_some _ e)
  have hget : ((hp.push (PySem.W.kdv_tup us)).push (PySem.HandSPX.excO C hp.objs.size)).get? (hp.objs.size + 1) = some (PySem.HandSPX.excO C hp.objs.size) := by heap_get
  have I2 : Inv X pins σ (upd H1 (hp.objs.size + 1) (exo (hp.objs.size + 1) C none)) ⟨(hp.push (PySem.W.kdv_tup us)).push (PySem.HandSPX.excO C hp.objs.size), g, dr, tk, os⟩ :=
    I1.laid (t' := tk) (a := hp.objs.size + 1) (o := exo (hp.objs.size + 1) C none) (h' := (hp.push (PySem.W.kdv_tup us)).push (PySem.HandSPX.excO C hp.objs.size)) kk hsz (exo_ok hget)
  have r2 : Vals (V.ref (hp.objs.size + 1) :: vs) (Value.ref (hp.objs.size + 1) :: us) := .cons rfl r1
  have hl : (Value.ref (hp.objs.size + 1) :: us ++ []).length = ps.length := by
    have e := r2.length
    rw [F1.len _ _ _ _ hq] at e
    rw [List.append_nil]
    exact e.symm
  have hus : us.length ≤ sizeLine := by
    rw [← Paired.length r1, sizeLine_eq]
    omega
  have b2 := hb _ (Value.ref (hp.objs.size + 1) :: us) I2.kIn hl
  rw [List.append_nil] at b2
  refine wpAny_call (PySem.HandSPX.call_own F.excBase_ValueError (fun Y => PySem.HandSPX.refsVE_contains Y bm hbm) (I1.kIn _ _ hC) (PySem.W.looks_findIn I1.kIn iC) (fun self => PySem.W.bind_fn I1.kIn self tI) hus
    (codeAny_mono (F1.run _ X.stack _ _ ⟨Value.ref (hp.objs.size + 1) :: us, []⟩ (Value.ref (hp.objs.size + 1) :: us) _ _ (fun _ _ _ => False) (hr.make C us []) (I2.env0.make C us []) b2 r2 hq) fun r s' hq' => ?_))
  cases r with
  | error er => exact hx pins σ _ _ er s' I2 hq'
  | ok fl =>
    cases fl with
    | ret u =>
      obtain ⟨v, H2, os2, bare2, un2, hok2, rv, ev, d, fs, ea, ed, hd1, q2⟩ := hq'
      subst ev
      obtain ⟨h2, g2, d2, t2, os'⟩ := s'
      obtain ⟨t0, G, J, kG, ge, hoe, na⟩ := mk_end0 (d2 := d2) (t2 := t2) I1 hsz kk un2 hok2 os2 bare2 ea ed hd1
      exact ⟨rv, hp.objs.size + 1, _, _, ⟨G, g2, d2, t2, os'⟩, _, .ref C, some d, rfl, J, kG, ge, hoe, ⟨rfl, rfl, fun vs e => by cases e; rfl⟩, rfl, rfl, na, rfl, bare2, raises_own T.exC T.tyC, q2⟩
    | next => exact False.elim hq'
    | brk => exact False.elim hq'
    | cont => exact False.elim hq'

/-! ### classes with one or two fields -/
def spI1 (C : Addr) (f : Str) : Sp := fun vs H Q _ => ∃ a y, vs = [.ref a, y] ∧ H a = some (exo a C none) ∧ ∀ dx, H dx = none → dx ≠ a → Q .non (upd (upd H dx (exd dx [(f, y)])) a (exo a C (some dx)))
def spI2 (C : Addr) (f g : Str) : Sp := fun vs H Q _ => ∃ a y z, vs = [.ref a, y, z] ∧ H a = some (exo a C none) ∧ ∀ dx, H dx = none → dx ≠ a → Q .non (upd (upd (upd H dx (exd dx [(f, y)])) a (exo a C (some dx))) dx (exd dx [(g, z), (f, y)]))
section
variable {P : Program} {w : World} {K : PySem.W.Frag} {mg : Str → Option Value} {base : Heap} {C fI : Addr} {fd : FuncData} {st : Stmt} {qual f g : Str} {k : Nat}
/-- what the written part says of a class of exceptions -/
structure XCls (K : PySem.W.Frag) (mg : Str → Option Value) (nm : String) (C fI : Addr) (fs : List Str) : Prop where
  gm : mg (Str.ofString nm) = some (.ref C)
  T : OexC K C
  iC : PySem.W.findIn K (.ref C) "__init__" = some (some (.ref fI))
  tI : PySem.W.typeIn K (.ref fI) = some (.type "function")
  no : ∀ f ∈ fs, PySem.W.findIn K (.ref C) f = some none
theorem ok_init1 {p1 p2 p3 p4 : Pos} (Fn : Fun K "__init__" qual st fI fd) (S : FnScope ["self", f] ["self", f] (defScope st)) (T : OexC K C) (no : PySem.W.findIn K (.ref C) f = some none) (hbd : defBody st = [.Assign [.Attribute (.Name "self" p1) f p2] (.Name f p3) p4])
    (hv : ∀ (cdv : Value) (A : Around) (outer : List PySem.Env) (s : Shared) (H : Hp) (E : XK), PE (cxOf CX0 P w K mg base ["self", f] qual (defScope st) fI cdv A outer s H E).nox (.Name "self" p1) (tVar 0) ∧ PE (cxOf CX0 P w K mg base ["self", f] qual (defScope st) fI cdv A outer s H E).nox (.Name f p3) (tVar 1)) : FnOk P w K mg base CX0 (k + 1) fI fd ["self", f] (spI1 C f) := by
  refine Fn.ok S (fun vs H Q E h => ?_) (fun cdv A outer s H vs Q E hr h => ?_)
  · obtain ⟨a, y, rfl, _⟩ := h
    rfl
  · obtain ⟨a, y, rfl, ha, q⟩ := h
    obtain ⟨h1, h2⟩ := hv cdv A outer s H E
    rw [hbd]
    exact ⟨_, pss_one (ps_ost h1 h2), _, rfl, _, rfl, a, C, rfl, T, no, .inl ⟨ha, fun dx n ne => q dx n ne⟩⟩
theorem ok_init2 {p1 p2 p3 p4 q1 q2 q3 q4 : Pos} (Fn : Fun K "__init__" qual st fI fd) (S : FnScope ["self", f, g] ["self", f, g] (defScope st)) (T : OexC K C) (nof : PySem.W.findIn K (.ref C) f = some none) (nog : PySem.W.findIn K (.ref C) g = some none)
    (hbd : defBody st = [.Assign [.Attribute (.Name "self" p1) f p2] (.Name f p3) p4, .Assign [.Attribute (.Name "self" q1) g q2] (.Name g q3) q4])
    (hv : ∀ (cdv : Value) (A : Around) (outer : List PySem.Env) (s : Shared) (H : Hp) (E : XK), PE (cxOf CX0 P w K mg base ["self", f, g] qual (defScope st) fI cdv A outer s H E).nox (.Name "self" p1) (tVar 0) ∧ PE (cxOf CX0 P w K mg base ["self", f, g] qual (defScope st) fI cdv A outer s H E).nox (.Name f p3) (tVar 1) ∧
      PE (cxOf CX0 P w K mg base ["self", f, g] qual (defScope st) fI cdv A outer s H E).nox (.Name "self" q1) (tVar 0) ∧ PE (cxOf CX0 P w K mg base ["self", f, g] qual (defScope st) fI cdv A outer s H E).nox (.Name g q3) (tVar 2)) : FnOk P w K mg base CX0 (k + 1) fI fd ["self", f, g] (spI2 C f g) := by
  refine Fn.ok S (fun vs H Q E h => ?_) (fun cdv A outer s H vs Q E hr h => ?_)
  · obtain ⟨a, y, z, rfl, _⟩ := h
    rfl
  · obtain ⟨a, y, z, rfl, ha, q⟩ := h
    obtain ⟨h1, h2, h3, h4⟩ := hv cdv A outer s H E
    rw [hbd]
    refine ⟨_, pss_cons (ps_ost h1 h2) (pss_one (ps_ost h3 h4)), _, rfl, _, rfl, a, C, rfl, T, nof, .inl ⟨ha, fun dx n ne => ?_⟩⟩
    exact ⟨_, rfl, _, rfl, a, C, rfl, T, nog, .inr ⟨dx, _, upd_same, by rw [upd_ne ne, upd_same], by simp, q dx n ne⟩⟩
end

/-! ### wishes -/
/-- a wish of the hand layer as a wish about values -/
def liftW (K : PySem.W.Frag) (mg : Str → Option Value) (W : WX) : WE := fun x σ H F => Same F H → ∀ cls d, XRep K mg F x.cls x.fs cls d → W cls d σ H
def EXW (K : PySem.W.Frag) (mg : Str → Option Value) : XW := fun x H F E => Same F H → ∀ cls d, XRep K mg F x.cls x.fs cls d → E cls d H

theorem mk_heap {H : Hp} {a d : Addr} {o1 o2 o3 u : HO} (hn : H a = none) (hd : d ≠ a) : upd (del (upd (upd (upd H a o1) d o2) a o3) a) d u = upd H d u := by
  funext b
  by_cases hb : b = d
  · subst hb; rw [upd_same, upd_same]
  · rw [upd_ne hb, upd_ne hb]
    by_cases ha : b = a
    · subst ha; rw [del_same, hn]
    · rw [del_ne ha, upd_ne ha, upd_ne hb, upd_ne ha]
theorem mk_heap2 {H : Hp} {a d : Addr} {o1 o2 o3 o4 u : HO} (hn : H a = none) (hd : d ≠ a) : upd (del (upd (upd (upd (upd H a o1) d o2) a o3) d o4) a) d u = upd H d u := by
  funext b
  by_cases hb : b = d
  · subst hb; rw [upd_same, upd_same]
  · rw [upd_ne hb, upd_ne hb]
    by_cases ha : b = a
    · subst ha; rw [del_same, hn]
    · rw [del_ne ha, upd_ne hb, upd_ne ha, upd_ne hb, upd_ne ha]
/-- C(e, ..): a new dict with the fields -/
def tMkF (C : Addr) (fs : List Str) (ta : TA) : St → Hp → XK → Prop := fun σ H Q => ta σ H fun vs H1 => vs.length = fs.length ∧ ∀ d, H1 d = none → Q (.ref C) (some d) (upd H1 d (.xd (fs.zip vs).reverse))
/-- raise C(e, ..) -/
def sRaise (c : String) (fs : List String) (as : List Arg) : Es := fun ρ => (Arg.runs as ρ).bind fun p => (Arg.fins as p.1 p.2).bind fun ds => if ds.length = fs.length then .exn ⟨c, (fs.zip ds).reverse⟩ else .bad
theorem repsF_append {K : PySem.W.Frag} {mg : Str → Option Value} {F : Hp} : ∀ {ds es : List (String × D)} {vs us : List (Str × V)}, repsF K mg F ds vs → repsF K mg F es us → repsF K mg F (ds ++ es) (vs ++ us)
  | [], _, _, _, h, k => by simp only [repsF] at h; subst h; simpa using k
  | (c, d) :: ds, _, _, _, h, k => by
    simp only [repsF] at h
    obtain ⟨v, r, rfl, h1, h2⟩ := h
    show repsF K mg F ((c, d) :: (ds ++ _)) ((Str.ofString c, v) :: (r ++ _))
    simp only [repsF]
    exact ⟨v, _, rfl, h1, repsF_append h2 k⟩
theorem repsF_one {K : PySem.W.Frag} {mg : Str → Option Value} {F : Hp} {c : String} {d : D} {v : V} (h : rep K mg F d v) : repsF K mg F [(c, d)] [(Str.ofString c, v)] := by
  simp only [repsF]
  exact ⟨v, [], rfl, h, rfl⟩
section
variable {X : Cx} {Γ Γ' Γ1 : Gm} {S : SC} {W : WX} {C fI : Addr} {k : Nat} {fd : FuncData} {f g nm : String} {e : Expr} {es : List Expr} {as : List Arg} {p pos pos2 : Pos} {fs : List Str}
theorem raise_end {H1 F1 : Hp} {σ : St} {ρ : Env} {Γ : Gm} {x : Exn} {vs : List (Str × V)} (c : X.mg (Str.ofString x.cls) = some (.ref C)) (rl : Rel X.K X.mg Γ ρ σ H1 F1) (rr : repsF X.K X.mg F1 x.fs vs) (h : exW (liftW X.K X.mg W) Γ ρ σ H1 F1 x) {d : Addr} (hd : H1 d = none) : W (.ref C) (some d) σ (upd H1 d (.xd vs)) := by
  have hf : F1 d = none := by
    cases e : F1 d with
    | none => rfl
    | some o => rw [rl.sub _ _ e] at hd; cases hd
  have sub : Same (upd F1 d (.xd vs)) (upd H1 d (.xd vs)) := fun b o e => by
    by_cases hb : b = d
    · subst hb; rw [upd_same] at e ⊢; exact e
    · rw [upd_ne hb] at e ⊢; exact rl.sub _ _ e
  refine h (upd H1 d (.xd vs)) (upd F1 d (.xd vs)) (Own Γ ρ σ) ⟨Same.updF hf, sub, fun q o e1 e2 e3 => ?_, fun q e => ?_, fun _ z => .inl z, fun _ _ z => z⟩ sub (.ref C) (some d) ⟨C, c, rfl, .inr ⟨d, vs, rfl, upd_same, repsF_mono (Same.updF hf) rr⟩⟩
  · have hq : q ≠ d := fun z => by subst z; rw [hd] at e1; cases e1
    rw [upd_ne hq, upd_ne hq]
    exact ⟨e1, e2⟩
  · by_cases hb : q = d
    · subst hb; exact hd
    · rw [upd_ne hb] at e; exact e
theorem vs_raise1 (hc : X.calm = true) (tk : L2N.Takes X W) (c : XCls X.K X.mg nm C fI [Str.ofString f]) (F1 : FnOk X.prog X.w X.K X.mg X.base CX0 k fI fd ["self", Str.ofString f] (spI1 C (Str.ofString f))) (hr : Room (k + 1) X.A) (hb : Binds X.K fd ["self", Str.ofString f] []) (hg : Gl X (Str.ofString nm)) (ha : VA X Γ Γ1 (liftW X.K X.mg W) [e] as) (hv : allVal as = true)
    (hdb : (Str.ofString nm == ("__debug__" : Str)) = false := by decide) (he : starEach (e :: []) X.env = (false, eval e X.env) :: starEach [] X.env := by rfl) (hpl : (backTo pos (starEach [] X.env)).any (·.1) = false := by rfl) :
    VS X Γ Γ' S (liftW X.K X.mg W) (.Raise (some (.Call (.Name (Str.ofString nm) p) [e] [] pos)) none pos2) (sRaise nm [f] as) :=
  psImp (L2N.ps_raise hc tk (pmkN_oex c.T c.iC c.tI F1 hr hb pass0 hg c.gm ha hdb he hpl)) fun D σ H ⟨ρ, F, rl, q⟩ => by
    refine ⟨ρ, F, rl, Res.sat_imp (Res.sat_bind.mp q) (fun z _ q vs H1 F1 e1 r1 b1 => ?_) fun _ h => h.ex⟩
    obtain ⟨ds, hds, q⟩ := fins_sat q
    have rr := (b1.fin r1 hds).reps hv
    have lr := reps_length rr
    split at q
    · rename_i hl
      match ds, vs, hl, lr, rr with
      | [d], [v], _, _, rr =>
        simp only [reps] at rr
        obtain ⟨v', r', ev, rv, er⟩ := rr
        cases ev
        refine ⟨by simp, fun a hn => ⟨a, v, by simp, upd_same, fun dx hdx ne => ⟨rfl, dx, _, upd_same, by rw [upd_ne ne, upd_same], by rw [upd_ne ne] at hdx; exact hdx, ?_⟩⟩⟩
        have hd1 : H1 dx = none := by rw [upd_ne ne] at hdx; exact hdx
        rw [mk_heap hn ne]
        exact raise_end c.gm r1 (x := ⟨nm, [(f, d)]⟩) (repsF_one rv) (by have := exWS.ex q; exact this.evo e1) hd1
    · exact q.elim
theorem vs_raise2 {e2 : Expr} (hc : X.calm = true) (tk : L2N.Takes X W) (c : XCls X.K X.mg nm C fI [Str.ofString f, Str.ofString g]) (F1 : FnOk X.prog X.w X.K X.mg X.base CX0 k fI fd ["self", Str.ofString f, Str.ofString g] (spI2 C (Str.ofString f) (Str.ofString g))) (hr : Room (k + 1) X.A) (hb : Binds X.K fd ["self", Str.ofString f, Str.ofString g] []) (hg : Gl X (Str.ofString nm)) (ha : VA X Γ Γ1 (liftW X.K X.mg W) [e, e2] as) (hv : allVal as = true)
    (hdb : (Str.ofString nm == ("__debug__" : Str)) = false := by decide) (he : starEach (e :: [e2]) X.env = (false, eval e X.env) :: starEach [e2] X.env := by rfl) (hpl : (backTo pos (starEach [e2] X.env)).any (·.1) = false := by rfl) :
    VS X Γ Γ' S (liftW X.K X.mg W) (.Raise (some (.Call (.Name (Str.ofString nm) p) [e, e2] [] pos)) none pos2) (sRaise nm [f, g] as) :=
  psImp (L2N.ps_raise hc tk (pmkN_oex c.T c.iC c.tI F1 hr hb pass0 hg c.gm ha hdb he hpl)) fun D σ H ⟨ρ, F, rl, q⟩ => by
    refine ⟨ρ, F, rl, Res.sat_imp (Res.sat_bind.mp q) (fun z _ q vs H1 F1 e1 r1 b1 => ?_) fun _ h => h.ex⟩
    obtain ⟨ds, hds, q⟩ := fins_sat q
    have rr := (b1.fin r1 hds).reps hv
    have lr := reps_length rr
    split at q
    · rename_i hl
      match ds, vs, hl, lr, rr with
      | [d, d2], [v, v2], _, _, rr =>
        simp only [reps] at rr
        obtain ⟨_, _, ev, rv, _, _, ev2, rv2, er⟩ := rr
        cases ev2
        cases ev
        refine ⟨by simp, fun a hn => ⟨a, v, v2, by simp, upd_same, fun dx hdx ne => ⟨rfl, dx, _, by rw [upd_ne (Ne.symm ne), upd_same], upd_same, by rw [upd_ne ne] at hdx; exact hdx, ?_⟩⟩⟩
        have hd1 : H1 dx = none := by rw [upd_ne ne] at hdx; exact hdx
        rw [mk_heap2 hn ne]
        exact raise_end c.gm r1 (x := ⟨nm, [(g, d2), (f, d)]⟩) (repsF_append (repsF_one rv2) (repsF_one rv)) (by have := exWS.ex q; exact this.evo e1) hd1
    · exact q.elim
end
end VL

set_option Elab.async false
set_option linter.all false
set_option maxRecDepth 100000
/-! VL15: defs that raise, their calls, try. -/
namespace VL
open PySem PySem.Spec PyProof.Rows L2

/-- a def by its body: exceptions may leave it -/
theorem fn_okX {P : Program} {w : World} {K : PySem.W.Frag} {mg : Str → Option Value} {base : Heap} {x qual : Str} {st : Stmt} {f : Addr} {fd : FuncData} {N ps : List Str} {k : Nat} {pms : List PM} {rm : Md} {eb : Es} {As : List Nat}
    (Fn : Fun K x qual st f fd) (S : FnScope N ps (defScope st)) (hp : pms.length = ps.length) (hN : pms.length ≤ N.length)
    (hb : ∀ (cdv : Value) (A : Around) (outer : List PySem.Env) (s : Shared) (H : Hp) (vs : List V) (E : XK), Room k (A.deeper (envOfC qual (defScope st) s.heap.objs.size f cdv)) → vs.length = pms.length → (∀ (i : Nat) (v : V), pms[i]? = some PM.io → vs[i]? = some v → ∃ q, v = .ref q) →
      ∃ Γ', (∀ i q, (i, q) ∈ io0 0 pms vs → Γ'[i]? = some (.io q)) ∧
        VSs (cxOf (L2N.CX P w) P w K mg base N qual (defScope st) f cdv A outer s H E) (g0 pms vs ++ List.replicate (N.length - pms.length) .fz) Γ' ⟨[], As, io0 0 pms vs, rm⟩ (liftW K mg fun cls d _ H => E cls d H) (defBody st) eb)
    (hr : rm = .own ∨ rm = .fz) :
    FnOk P w K mg base (L2N.CX P w) (k + 1) f fd ps (spFn K mg pms rm (fnEv pms N.length eb) (EXW K mg)) := by
  obtain ⟨oc, od, kV, doc, pm, an, cdv, ct, osl, rfl, lk, hcd⟩ := Fn.ex
  refine fn_of lk hcd S (fun vs H Q E h => h.1.trans hp) fun A outer s H vs Q E hroom h => ?_
  obtain ⟨hl, F, ds, sm, pa, nd, q⟩ := h
  have isref : ∀ (i : Nat) (v : V), pms[i]? = some PM.io → vs[i]? = some v → ∃ q, v = .ref q := fun i v h1 h2 => by
    obtain ⟨v', d', k1, k2, k3⟩ := pa.get h1
    rw [h2] at k1; cases k1
    obtain ⟨q, e, _⟩ := k3
    exact ⟨q, e⟩
  obtain ⟨Γ', hΓ, hv⟩ := hb cdv A outer s H vs E hroom hl isref
  refine ⟨_, hv, ds.map some ++ List.replicate (N.length - ds.length) none, F, ?_⟩
  obtain ⟨r0, o0⟩ := rel_start (N := N) sm pa nd hN
  have fe : ∀ {O' : Ft} {H' F' : Hp}, Evo (Own (g0 pms vs ++ List.replicate (N.length - pms.length) .fz) (ds.map some ++ List.replicate (N.length - ds.length) none) (L2.start N vs)) H F O' H' F' → FEvo (ioAd pms vs) H F H' F' := fun e => ⟨e.sf, e.sh, fun p o k1 k2 k3 => e.kp p o k1 k2 fun z => k3 (o0 p z), e.dom⟩
  refine ⟨r0, Res.sat_imp (Res.sat_bind.mp q) (fun fl _ q => ?_) fun y h => fun σ' H' F' O' e _ => h H' F' (fe e)⟩
  have back : ∀ {ρ' : Env} {σ' : St} {H' F' : Hp} {Γr : Gm} {outs : List D}, Rel K mg Γr ρ' σ' H' F' → (∀ i q, (i, q) ∈ io0 0 pms vs → Γr[i]? = some (.io q)) → outs.length = (ioIx 0 pms).length → (∀ (k i : Nat) (d : D), (ioIx 0 pms)[k]? = some i → outs[k]? = some d → ρ'[i]? = some (some d)) → IoBack K mg (ioAd pms vs) outs H' F' := fun {ρ' σ' H' F' Γr outs} r hi h1 h2 =>
    ⟨by rw [h1]; exact ioIx_length isref hl, fun k p d e1 e2 => by
      obtain ⟨i, g1, g2⟩ := io0_at (n := 0) isref hl e1
      obtain ⟨v, a1, a2, a3, a4⟩ := r.slot i _ d (hi i p g2) (h2 k i d g1 e2)
      subst a2
      exact ⟨a3, a4⟩⟩
  cases fl with
  | next ρ' =>
    obtain ⟨outs, q, h1, h2⟩ := outs_sat (Res.sat_bind.mp q)
    exact fun σ' H' F' e k r => q .non H' F' (fe e) (back r hΓ h1 h2) (by
      rcases hr with rfl | rfl
      · exact ⟨by unfold Cell; rw [if_neg (show ¬ cellD .non = true from fun h => nomatch h)]; simp only [rep], fun c => by cases c⟩
      · simp only [RetF, rep])
  | brk ρ' => exact q.elim
  | cont ρ' => exact q.elim
  | ret d ρ' =>
    obtain ⟨outs, q, h1, h2⟩ := outs_sat (Res.sat_bind.mp q)
    refine fun v σ' H' F' Γr e r hi rv => q v H' F' (fe e) (back r hi h1 h2) ?_
    rcases hr with rfl | rfl
    · refine ⟨rv.1, fun c p z => ?_⟩
      rcases rv.2 c p z with k1 | ⟨k1, k2⟩
      · exact k1
      · obtain ⟨j, hj⟩ := List.getElem?_of_mem (o0 p k1)
        obtain ⟨i', g1, g2⟩ := io0_at (n := 0) isref hl hj
        exact absurd rfl (k2 i' p g2)
    · exact rv
section
variable {X : Cx} {Γ Γ' Γ1 Γ2 Γ3 : Gm} {S : SC} {W : WX} {e : Expr} {es : List Expr} {p pos : Pos} {m rm : Md} {as : List Arg} {x : Str} {pms : List PM} {fe : Fe}
/-- a call of a def that may raise -/
theorem ve_callX (hrm : rm = .own ∨ rm = .fz) (ha : VA X Γ Γ' (liftW X.K X.mg W) (e :: es) as) (hok : okA (ioSl as) pms as = true) (hnd : (ioSl as).Nodup) (hm : mutAll Γ' (ioSl as) = true)
    (hp : ∀ {t : TA}, PA X (e :: es) t → PE X (.Call (.Name x p) (e :: es) [] pos) (tCallS (spFn X.K X.mg pms rm fe (EXW X.K X.mg)) (L2.WE W) t)) :
    VE X Γ Γ' (liftW X.K X.mg W) (.Call (.Name x p) (e :: es) [] pos) rm (eFn pms fe as) :=
  peImp (hp ha) fun σ H Q h => call_fn_tr (W := liftW X.K X.mg W) (EX := EXW X.K X.mg) (E := L2.WE W σ) (σ := σ) hok hnd (mutAll_ok hm) (fun y H F ρ k ad H' F' ev fv s cls d xr => k H' F' _ ev s cls d xr) h hrm
end

/-! ### try -/
/-- the body; the exceptions of the classes cs go to the suite, there in slot i; ws: the slots that are lost -/
def sTry (i : Nat) (ws : List Nat) (cs : List String) (body suite : Es) : Es := fun ρ => match body ρ with
  | .ok fl => .ok fl
  | .exn x => if cs.contains x.cls = true then match suite ((wipeE ρ ws).set i (some (.exc x.cls x.fs))) with
      | .ok (.next ρ') => .ok (.next (ρ'.set i none))
      | .ok (.ret d ρ') => .ok (.ret d ρ')
      | _ => .bad
    else .bad
  | .bad => .bad
/-- slots ws are all that may be changed or stored; slot i is one of them -/
def tryB (Γ : Gm) (i : Nat) (ws As1 As : List Nat) : Bool := (decide (Γ[i]?.isSome) && (As1.all fun j => ws.contains j && As.contains j) && As.contains i) && ((List.range Γ.length).all fun j => match Γ[j]? with
  | some m => !m.mut || ws.contains j
  | none => true)
theorem wipeE_length {ρ : Env} : ∀ vs : List Nat, (wipeE ρ vs).length = ρ.length
  | [] => rfl
  | v :: vs => by simp only [wipeE, List.length_set, wipeE_length vs]
theorem wipeE_in {ρ : Env} {d : D} : ∀ {vs : List Nat} {j : Nat}, (wipeE ρ vs)[j]? = some (some d) → j ∉ vs ∧ ρ[j]? = some (some d)
  | [], _, h => ⟨by simp, h⟩
  | v :: vs, j, h => by
    simp only [wipeE] at h
    rcases set_get h with ⟨_, e, _⟩ | ⟨e, h⟩
    · cases e
    · obtain ⟨h1, h2⟩ := wipeE_in h
      exact ⟨by simp only [List.mem_cons, not_or]; exact ⟨fun z => e z.symm, h1⟩, h2⟩
section
variable {K : PySem.W.Frag} {mg : Str → Option Value} {Γ Γ' Γ2 : Gm} {ρ : Env} {σ σ' : St} {H F H' F' : Hp} {O' : Ft} {i : Nat} {ws As1 As : List Nat} {a : Addr} {cls : Value} {d : Option Addr} {x : Exn}
theorem try_rel (r : Rel K mg Γ ρ σ H F) (hb : tryB Γ i ws As1 As = true) (e : Evo (Own Γ ρ σ) H F O' H' F') (k : Keep As1 σ σ') (s : Same F' H') (xr : XRep K mg F' x.cls x.fs cls d) :
    Rel K mg (Γ.set i (.xc a cls d)) ((wipeE ρ ws).set i (some (.exc x.cls x.fs))) (σ'.set i (some (.ref a))) H' F' ∧ Evo (Own Γ ρ σ) H F (Own (Γ.set i (.xc a cls d)) ((wipeE ρ ws).set i (some (.exc x.cls x.fs))) (σ'.set i (some (.ref a)))) H' F' ∧ Keep As σ (σ'.set i (some (.ref a))) := by
  unfold tryB at hb
  simp only [Bool.and_eq_true, List.all_eq_true, decide_eq_true_eq, List.contains_iff_mem] at hb
  obtain ⟨⟨⟨hi, h1⟩, hiA⟩, h2⟩ := hb
  have hiΓ : i < Γ.length := by
    rcases Nat.lt_or_ge i Γ.length with q | q
    · exact q
    · rw [List.getElem?_eq_none q] at hi; cases hi
  have hm : ∀ {j : Nat} {m : Md}, Γ[j]? = some m → m.mut = true → j ∈ ws := fun {j m} hj mu => by
    have hl : j < Γ.length := by
      rcases Nat.lt_or_ge j Γ.length with q | q
      · exact q
      · rw [List.getElem?_eq_none q] at hj; cases hj
    have := h2 j (List.mem_range.mpr hl)
    rw [hj] at this
    simpa [mu] using this
  have hiσ : i < σ'.length := by rw [k.1, ← r.lg]; exact hiΓ
  have hiρ : i < (wipeE ρ ws).length := by rw [wipeE_length, r.lr, ← r.lg]; exact hiΓ
  -- slots that are left
  have left : ∀ {j : Nat} {m : Md} {y : D}, i ≠ j → Γ[j]? = some m → (wipeE ρ ws)[j]? = some (some y) → m.mut = false ∧ ρ[j]? = some (some y) ∧ σ'[j]? = σ[j]? := fun {j m y} ne g1 g2 => by
    obtain ⟨n1, g3⟩ := wipeE_in g2
    refine ⟨?_, g3, k.2 j fun z => n1 (h1 j z).1⟩
    cases hmu : m.mut with
    | false => rfl
    | true => exact absurd (hm g1 hmu) n1
  have noOwn : ∀ j p, ¬ OwnAt (Γ.set i (.xc a cls d)) ((wipeE ρ ws).set i (some (.exc x.cls x.fs))) (σ'.set i (some (.ref a))) j p := fun j p ⟨m, y, g1, g2, g3, g4, g5⟩ => by
    by_cases e : i = j
    · subst e
      rw [getset hiΓ] at g1; cases g1; cases g2
    · rw [List.getElem?_set_ne e] at g1 g3
      rw [(left e g1 g3).1] at g2; cases g2
  have brw : ∀ j p, BrwAt (Γ.set i (.xc a cls d)) ((wipeE ρ ws).set i (some (.exc x.cls x.fs))) (σ'.set i (some (.ref a))) j p → BrwAt Γ ρ σ j p := fun j p ⟨y, g1, g3, g4, g5⟩ => by
    by_cases e : i = j
    · subst e
      rw [getset hiΓ] at g1; cases g1
    · rw [List.getElem?_set_ne e] at g1 g3 g5
      obtain ⟨_, q2, q3⟩ := left e g1 g3
      exact ⟨y, g1, q2, g4, by rw [← q3]; exact g5⟩
  have ev : Evo (Own Γ ρ σ) H F (Own (Γ.set i (.xc a cls d)) ((wipeE ρ ws).set i (some (.exc x.cls x.fs))) (σ'.set i (some (.ref a)))) H' F' :=
    ⟨e.sf, e.sh, e.kp, e.dom, fun p ⟨j, hj⟩ => absurd hj (noOwn j p), fun j p hj => brw j p hj⟩
  refine ⟨⟨by rw [List.length_set, List.length_set, wipeE_length, r.lr, k.1], by rw [List.length_set, List.length_set, r.lg, k.1], fun j m y g1 g2 => ?_, fun a' b p ga gb => absurd ga (noOwn a' p), s⟩, ev, ?_⟩
  · by_cases e' : i = j
    · subst e'
      rw [getset hiΓ] at g1; cases g1
      rw [getset hiρ] at g2; cases g2
      exact ⟨.ref a, getset hiσ, rfl, x.cls, x.fs, rfl, xr⟩
    · rw [List.getElem?_set_ne e'] at g1 g2
      obtain ⟨q1, q2, q3⟩ := left e' g1 g2
      obtain ⟨v, w1, w2⟩ := r.slot j m y g1 q2
      refine ⟨v, by rw [List.getElem?_set_ne e', q3]; exact w1, ?_⟩
      cases m with
      | fz => exact rep_mono e.sf w2
      | own => cases q1
      | io q => cases q1
      | brw => exact RdN.evo w2 ev
      | xc a' c' d' => exact xc_mono e.sf w2
  · exact (Keep.sub (fun j hj => (h1 j hj).2) k).trans (Keep.set hiA)
theorem try_end (hi : i < Γ'.length) (hg : Γ'[i]? = some .fz) (r : Rel K mg (Γ'.set i (.xc a cls d)) ρ σ H F) : Rel K mg Γ' (ρ.set i none) (σ.set i none) H F ∧ Evo (Own (Γ'.set i (.xc a cls d)) ρ σ) H F (Own Γ' (ρ.set i none) (σ.set i none)) H F := by
  have own : ∀ j p, OwnAt Γ' (ρ.set i none) (σ.set i none) j p → OwnAt (Γ'.set i (.xc a cls d)) ρ σ j p := fun j p ⟨m, y, g1, g2, g3, g4, g5⟩ => by
    by_cases e : i = j
    · subst e
      rw [hg] at g1; cases g1; cases g2
    · rw [List.getElem?_set_ne e] at g3 g5
      exact ⟨m, y, by rw [List.getElem?_set_ne e]; exact g1, g2, g3, g4, g5⟩
  have brw : ∀ j p, BrwAt Γ' (ρ.set i none) (σ.set i none) j p → BrwAt (Γ'.set i (.xc a cls d)) ρ σ j p := fun j p ⟨y, g1, g3, g4, g5⟩ => by
    by_cases e : i = j
    · subst e
      rw [hg] at g1; cases g1
    · rw [List.getElem?_set_ne e] at g3 g5
      exact ⟨y, by rw [List.getElem?_set_ne e]; exact g1, g3, g4, g5⟩
  have ev : Evo (Own (Γ'.set i (.xc a cls d)) ρ σ) H F (Own Γ' (ρ.set i none) (σ.set i none)) H F := (Evo.refl r.sub).mono (fun _ z => z) (fun p ⟨j, hj⟩ => .inl ⟨j, own j p hj⟩) fun j p hj => brw j p hj
  refine ⟨⟨by rw [List.length_set, List.length_set]; exact r.lr, by rw [List.length_set, ← r.lg, List.length_set], fun j m y g1 g2 => ?_, fun a' b p ga gb => r.inj a' b p (own _ _ ga) (own _ _ gb), r.sub⟩, ev⟩
  by_cases e' : i = j
  · subst e'
    rcases set_get g2 with ⟨_, z, _⟩ | ⟨z, _⟩
    · cases z
    · exact absurd rfl z
  · rw [List.getElem?_set_ne e'] at g2
    obtain ⟨v, w1, w2⟩ := r.slot j m y (by rw [List.getElem?_set_ne e']; exact g1) g2
    refine ⟨v, by rw [List.getElem?_set_ne e']; exact w1, ?_⟩
    cases m with
    | brw => exact RdN.evo w2 ev
    | _ => exact w2
end
section
variable {X : Cx} {Γ Γ' Γ1 Γ2 Γ3 : Gm} {S : SC} {W : WE} {x n : Str} {c : Value} {i : Nat} {body suite : List Stmt} {b₀ : Stmt} {np pos pos' : Pos} {eb es : Es} {ws As1 : List Nat} {cs : List String}
theorem okS.as {D : Ends} {ρ : Env} {σ : St} {H F : Hp} {fl : Fl} (hA : ∀ j ∈ As1, j ∈ S.As) (h : okS X Γ Γ' S D ρ σ H F fl) : okS X Γ Γ' { S with As := As1 } D ρ σ H F fl := by
  cases fl with
  | next ρ' => exact fun σ' H' F' e1 k1 r1 => h σ' H' F' e1 (k1.sub hA) r1
  | brk ρ' => exact fun σ' H' F' e1 k1 r1 => h σ' H' F' e1 (k1.sub hA) r1
  | cont ρ' => exact fun σ' H' F' e1 k1 r1 => h σ' H' F' e1 (k1.sub hA) r1
  | ret d ρ' => exact h
theorem vs_try (hb0 : tryB Γ i ws As1 S.As = true) (hg : Γ'[i]? = some .fz) (hs : X.stack = X.env :: X.outer) (hf : X.env.frame = some X.env.locals) (hN : X.N.Nodup) (hi : X.N[i]? = some n) (hln : X.env.kindOf n = some .local) (hc : Names X x c) {Wout : WX} (tk : L2N.Takes X Wout)
    (hcs : ∀ nm ∈ cs, ∀ C, X.mg (Str.ofString nm) = some (.ref C) → PySem.W.exmOne X.K (.ref C) c = some true)
    (hb : ∀ (W1 : WX) (pn : List (Addr × Obj)) (xe : Value → Shared → Prop), L2N.Takes (X.tr pn xe) W1 → PassesOwn (model X.prog X.w) X.A X.env xe → VSs (X.tr pn xe) Γ Γ' { S with As := As1 } (liftW X.K X.mg W1) body eb)
    (hsu : ∀ (a : Addr) (oe : Obj) (cls : Value) (d : Option Addr) (pn : List (Addr × Obj)), L2N.Zn cls d oe → (∃ vs, oe.data = .fields vs) → VSs (X.suite a ((a, oe) :: pn)) (Γ.set i (.xc a cls d)) (Γ'.set i (.xc a cls d)) S WF (b₀ :: suite) es) :
    VS X Γ Γ' S W (.Try body [.ExceptHandler (some (.Name x np)) (some n) (b₀ :: suite) pos'] [] [] pos) (sTry i ws cs eb es) :=
  psImp (L2N.ps_try_as hs hf hN hi hln hc tk (tb := fun W1 => trS X Γ Γ' { S with As := As1 } (liftW X.K X.mg W1) eb) (ts := fun a cls d => trS X (Γ.set i (.xc a cls d)) (Γ'.set i (.xc a cls d)) S WF es) (fun W1 pn xe t p => hb W1 pn xe t p) (fun a oe cls d pn hz hf => hsu a oe cls d pn hz hf)) fun D σ H ⟨ρ, F, r, q⟩ => by
    have hb1 := hb0
    unfold tryB at hb1
    simp only [Bool.and_eq_true, List.all_eq_true, decide_eq_true_eq, List.contains_iff_mem] at hb1
    have hA : ∀ j ∈ As1, j ∈ S.As := fun j hj => (hb1.1.1.2 j hj).2
    have hiA : i ∈ S.As := hb1.1.2
    have hiΓ' : i < Γ'.length := by
      rcases Nat.lt_or_ge i Γ'.length with q | q
      · exact q
      · rw [List.getElem?_eq_none q] at hg; cases hg
    refine ⟨ρ, F, r, ?_⟩
    unfold sTry at q
    cases he : eb ρ with
    | bad => rw [he] at q; exact q.elim
    | ok fl => rw [he] at q; exact okS.as hA q
    | exn y =>
      rw [he] at q
      dsimp only at q
      split at q
      · rename_i hy
        intro σ' H' F' O' e k sub cls d xr
        obtain ⟨C, g1, g2, _⟩ := id xr
        subst g2
        refine ⟨true, hcs y.cls (by simpa using hy) C g1, fun _ a ha => ?_, fun z => Bool.noConfusion z⟩
        obtain ⟨r1, e1, k1⟩ := try_rel (a := a) r hb0 e k sub xr
        refine ⟨_, F', r1, ?_⟩
        cases hs : es ((wipeE ρ ws).set i (some (.exc y.cls y.fs))) with
        | bad => rw [hs] at q; exact q.elim
        | exn z => rw [hs] at q; exact q.elim
        | ok fl =>
          rw [hs] at q
          cases fl with
          | next ρ' =>
            intro σ2 H2 F2 e2 k2 r2
            obtain ⟨r3, e3⟩ := try_end hiΓ' hg r2
            exact q _ H2 F2 ((e1.trans e2).trans e3) ((k1.trans k2).trans (Keep.set hiA)) r3
          | ret d ρ' =>
            intro v σ2 H2 F2 Γr e2 r2 hi2 rv
            exact q v σ2 H2 F2 Γr (e1.trans e2) r2 hi2 (rv.evo e1)
          | brk ρ' => exact q.elim
          | cont ρ' => exact q.elim
      · exact q.elim
end
end VL

set_option Elab.async false
set_option linter.all false
set_option maxRecDepth 100000
/-! VL16: within an except suite: fields, isinstance, calls. -/
namespace PySem.W
open PySem PySem.Spec PySem.Calls PyProof.Rows
section
variable {prog : Program} {w : World} {A : Around} {E : Value → Shared → Prop} {s : Shared} {K : Frag} {x D : Addr} {ox : Obj} {od : Option Obj}
theorem vl_findObj {C : Addr} {name : Str} {a g : Value} (hc : (clsIn K C).isSome = true) (ha : findIn K (.ref C) name = some (some a)) (hg : specialIn K a "__get__" = some (some g)) (ht : takesIn K a = some true) : findObj K C od name = some (.bind g a) := by
  obtain ⟨cd, hc⟩ := Option.isSome_iff_exists.mp hc
  unfold findObj
  rw [hc, Option.bind_some, ha, Option.bind_some]
  simp [hg, ht]
theorem vl_classE {Q : Option Value → Shared → Prop} (hga : findIn K (.ref D) "__getattribute__" = some (some (.builtin "BaseException.__getattribute__"))) (hgt : findIn K (.ref D) "__getattr__" = some none) (hsub : subIn K (.ref D) (.type "BaseException") = some true)
    (hdct : hasDictIn K D = true) (ha : findIn K (.ref D) "__class__" = some (some (.builtin "object.__class__")))
    (hn : specialIn K (.builtin "object.__class__") "__get__" = some (some (.builtin "getset_descriptor.__get__"))) (htk : takesIn K (.builtin "object.__class__") = some true) (hm : mroIn K D (.type "object") = some true)
    (X : K.In s.heap) (I : InstAt s.heap x ox D od) (h : Q (some (.ref D)) { s with toks := s.toks + 1 }) : wpAny (model prog w) A (getAttr? (.ref x) "__class__") Q E s := by
  have hf : findObj K D od "__class__" = some (.bind (.builtin "getset_descriptor.__get__") (.builtin "object.__class__")) := vl_findObj (by obtain ⟨cd, hc, _⟩ := any_some hdct; rw [hc]; rfl) ha hn htk
  obtain ⟨hp, g, d, t, os⟩ := s
  have L0 := I.type (M := model prog w)
  have L1 := looks_findIn (M := model prog w) X hga
  have L2 := looks_findIn (M := model prog w) X hgt
  have L3 := looks_find (M := model prog w) X I hf
  have sub : Looks (model prog w) hp (isInstance (.ref x) (.type "BaseException")) true := L0.andThen (looks_subIn X hsub)
  have hx0 : (false && onTheHeap (Value.builtin "BaseException.__getattribute__")) = false := rfl
  have hx2 : (Value.builtin "BaseException.__getattribute__" == Value.builtin "object.__getattribute__") = false := by decide +kernel
  have hx1 : (onTheHeap (Value.ref D) && Value.builtin "BaseException.__getattribute__" == Value.builtin "object.__getattribute__") = false := by rw [hx2]; rfl
  unfold getAttr? getAttrBy? getAttrBy
  refine wpAny_bind (wpAny_mkText (wpAny_bind (wpAny_attempt (wpAny_holding (wpAny_bind (L0.at (wpAny_bind (L1.at ?_))))))))
  show wpAny _ _ (if (onTheHeap (Value.ref D) && Value.builtin "BaseException.__getattribute__" == Value.builtin "object.__getattribute__") = true then _ else _) _ _ _
  rw [hx1, if_neg Bool.false_ne_true]
  unfold getAttrByItsOwn hookBefore
  refine wpAny_bind ?_
  rw [if_pos (show onTheHeap (Value.ref D) = true from rfl)]
  refine L2.at ?_
  refine wpAny_bind (wpAny_attempt (wpAny_holding ?_))
  unfold callGetattribute
  rw [hx0, if_neg Bool.false_ne_true]
  unfold boundAndCalled
  rw [PySem.F.excAttr_ValueError.ga.bind (.ref x)]
  refine wpAny_bind (wpAny_pure ?_)
  show wpAny _ _ (call (.builtin "BaseException.__getattribute__") [.ref x, .str "__class__" t]) _ _ _
  refine wpAny_call (codeAny_call_builtin PySem.F.excAttr_ValueError.ga.plain PySem.F.entry_bexc_ga ?_)
  refine @check_slot (model prog w) _ _ ⟨hp, g, d, t + 1, os⟩ "BaseException.__getattribute__" "BaseException" "__getattribute__" (.ref x) [.str "__class__" t] [] _ (by decide +kernel) (by decide +kernel) sub (PySem.F.args_bexc_ga (.ref x) (.str "__class__" t)) ?_
  unfold Builtin.«object.__getattribute__»
  refine wpAny_bind (wpAny_of_eq (a := ((Value.ref x : Value), [Value.str "__class__" t])) (by first | rfl | (simp only [slotArgs]; rfl)) ?_)
  refine wpAny_bind (wpAny_pure (wpAny_bind (L0.at (wpAny_bind (L3.at ?_)))))
  show wpAny _ _ (holding [Value.builtin "object.__class__"] (call (.builtin "getset_descriptor.__get__") [.builtin "object.__class__", .ref x, .ref D]) >>= ret) _ _ _
  refine wpAny_bind (wpAny_holding (wpAny_call (class_get (s := ⟨hp, g, d, t + 1, os⟩) (ox := ox) (od := od) X I hm ?_)))
  refine wpAny_pure ?_
  show wpAny _ _ (handedOut (.ref D)) _ _ _
  rw [handedOut_of (v := .ref D) rfl]
  first
    | exact wpAny_pure (wpAny_pure h)
    | exact wpAny_pure h
    | exact wpAny_pure (wpAny_bind (wpAny_pure (wpAny_pure h)))
theorem vl_kitx (hga : findIn K (.ref D) "__getattribute__" = some (some (.builtin "BaseException.__getattribute__"))) (hgt : findIn K (.ref D) "__getattr__" = some none) (hsub : subIn K (.ref D) (.type "BaseException") = some true) (hdct : hasDictIn K D = true) (ha : findIn K (.ref D) "__class__" = some (some (.builtin "object.__class__")))
    (hn : specialIn K (.builtin "object.__class__") "__get__" = some (some (.builtin "getset_descriptor.__get__"))) (htk : takesIn K (.builtin "object.__class__") = some true) (hm : mroIn K D (.type "object") = some true) :
    KitX K (.ref x) (.ref D) (fun h => ∃ od, InstAt h x ox D od) where
  ty := fun _ _ _ ⟨_, I⟩ => I.type
  it := fun _ _ X _ => by
    obtain ⟨cdD, hcD, _⟩ := any_some hdct
    unfold clsIn at hcD
    split at hcD
    · rename_i c' d' cd' sl' ho
      intro A' Q' E' s' k q
      unfold isType loadHead
      exact wpAny_bind (wpAny_loadPart (k _ _ (X _ _ ho)) (wpAny_pure q))
    · cases hcD
  ne := fun h tp dd its n sl X htp => by
    obtain ⟨cdD, hcD, _⟩ := any_some hdct
    refine Bool.eq_false_iff.mpr fun q => ?_
    have e : D = tp := Value.ref.inj (beq_iff_eq.mp q)
    subst e
    unfold clsIn at hcD
    split at hcD
    · rename_i c' d' cd' sl' ho
      have z := (X _ _ ho).symm.trans htp
      cases z
    · cases hcD
  ca := fun X ⟨_, I⟩ k => vl_classE hga hgt hsub hdct ha hn htk hm X I k
end
end PySem.W
namespace VL
open PySem PySem.Spec PyProof.Rows L2

/-! ### fields -/
def lookF (f : String) : List (String × D) → Option D
  | [] => none
  | p :: r => if Str.ofString p.1 == Str.ofString f then some p.2 else lookF f r
theorem repsF_look {K : PySem.W.Frag} {mg : Str → Option Value} {F : Hp} {f : String} {y : D} : ∀ {fs : List (String × D)} {vs : List (Str × V)}, repsF K mg F fs vs → lookF f fs = some y → ∃ v, vs.lookup (Str.ofString f) = some v ∧ rep K mg F y v
  | [], _, _, h => by cases h
  | (c, d) :: ds, _, r, h => by
    simp only [repsF] at r
    obtain ⟨v, w, rfl, h1, h2⟩ := r
    simp only [lookF] at h
    split at h
    · rename_i e
      cases h
      have e' : Str.ofString f = Str.ofString c := (beq_iff_eq.mp e).symm
      exact ⟨v, by simp [List.lookup, e'], h1⟩
    · rename_i e
      obtain ⟨v', k1, k2⟩ := repsF_look h2 h
      have e' : (Str.ofString f == Str.ofString c) = false := beq_eq_false_iff_ne.mpr fun z => e (beq_iff_eq.mpr z.symm)
      exact ⟨v', by simp [List.lookup, e', k1], k2⟩
/-- what is said of the classes that may be in a suite -/
def XTab (K : PySem.W.Frag) (mg : Str → Option Value) (cs : List String) (f : Str) : Prop := ∀ nm ∈ cs, ∀ C, mg (Str.ofString nm) = some (.ref C) → XfC K C ∧ PySem.W.findIn K (.ref C) f = some none
def eXf (i : Nat) (cs : List String) (f : String) : Ev := fun ρ => (gv ρ i).bind fun d => match d with
  | .exc c fs => if cs.contains c = true then (opt (lookF f fs)).bind fun y => .ok (y, ρ) else .bad
  | _ => .bad
def tXfD (K : PySem.W.Frag) (a : Addr) (cls : Value) (d : Option Addr) (n : Str) (te : TE) : TE := fun σ H Q => te σ H fun x H1 => x = .ref a ∧ ∃ C, XfC K C ∧ PySem.W.findIn K (.ref C) n = some none ∧ cls = .ref C ∧ ∃ (dd : Addr) (fs : List (Str × V)) (v : V), d = some dd ∧ H1 dd = some (.xd fs) ∧ fs.lookup n = some v ∧ Q v H1
theorem pe_xfD {X : Cx} {a : Addr} {oe : Obj} {cls : Value} {d : Option Addr} {pn : List (Addr × Obj)} {e : Expr} {te : TE} {pos : Pos} {n : Str}
    (hz : Zc cls d oe) (hf : ∃ vs, oe.data = .fields vs) (he : PE (X.suite a ((a, oe) :: pn)) e te) (hb : attributeBase e n X.env (eval e X.env) = eval e X.env := by rfl) :
    PE (X.suite a ((a, oe) :: pn)) (.Attribute e n pos) (tXfD X.K a cls d n te) := by
  refine ⟨fun pins s σ H Q I h => ?_⟩
  refine attr_of hb (thn (he.run pins s σ H _ I h) fun u s1 hh => ?_)
  obtain ⟨x, H1, I1, rx, ex, C, T, hno, ec, dd, fs, v, ed, ea, l, q⟩ := hh
  subst ex
  obtain rfl : u = Value.ref a := rx
  subst ec
  subst ed
  obtain ⟨ha, _⟩ := I1.pin (a, oe) (List.mem_append_left _ List.mem_cons_self)
  obtain ⟨vs, hd⟩ := hf
  have hx : ObjOk X.prog X.w H1 s1.heap dd (.xd fs) := I1.hok dd _ ea
  obtain ⟨mA, hns, hr⟩ := hx
  obtain ⟨od, ho, hl⟩ := lookIn_ns hns
  obtain ⟨u, hu, ru⟩ := RelO.some_of (v := v) (o := mA n) (by rw [← l]; exact hr n)
  have J : PySem.W.InstAt s1.heap a oe C (some od) := ⟨ha, hz.1, by unfold PySem.W.notCls; rw [hd] <;> rfl, by rw [hz.2]; exact ho⟩
  exact HandSPX.exc_get I1.kIn J T.ga T.gg T.exC (PySem.W.findObj_own T.hdC hno rfl (by rw [hl, hu])) (handed_of ru) ⟨v, H1, I1.tok _, ru, q⟩
section
variable {X : Cx} {Γ Γ' : Gm} {W : WE} {a : Addr} {oe : Obj} {cls : Value} {d : Option Addr} {pn : List (Addr × Obj)} {e : Expr} {pos p2 p : Pos} {i : Nat} {cs : List String} {f : String}
theorem ve_xf (hz : L2N.Zn cls d oe) (hf : ∃ vs, oe.data = .fields vs) (hi : Γ[i]? = some (.xc a cls d)) (ht : XTab X.K X.mg cs (Str.ofString f)) (he : PE (X.suite a ((a, oe) :: pn)) e (tVar i)) (hb : attributeBase e (Str.ofString f) X.env (eval e X.env) = eval e X.env := by rfl) :
    VE (X.suite a ((a, oe) :: pn)) Γ Γ W (.Attribute e (Str.ofString f) pos) .fz (eXf i cs f) :=
  peImp (pe_xfD hz.zc hf he hb) fun σ H Q ⟨ρ, F, r, q⟩ => by
    obtain ⟨y, hy, q⟩ := gv_sat (Res.sat_bind.mp q)
    cases y <;> first | exact q.elim | skip
    rename_i c fs
    dsimp only at q
    split at q
    · rename_i hc
      obtain ⟨y, hl, q⟩ := opt_sat (Res.sat_bind.mp q)
      obtain ⟨v, w1, w2, c', fs', w3, C, x1, x2, x3⟩ := r.slot i _ _ hi hy
      cases w3
      subst w2
      obtain ⟨t1, t2⟩ := ht c (by simpa using hc) C x1
      refine ⟨_, w1, rfl, C, t1, t2, x2, ?_⟩
      rcases x3 with ⟨x3, _⟩ | ⟨dd, vs, x3, x4, x5⟩
      · subst x3; cases hl
      · obtain ⟨u, u1, u2⟩ := repsF_look x5 hl
        exact ⟨dd, vs, u, x3, r.sub _ _ x4, u1, q u H F (Evo.refl r.sub) r u2⟩
    · exact q.elim
/-! ### isinstance of the exception -/
def ITab (K : PySem.W.Frag) (mg : Str → Option Value) (tb : List (String × Bool)) (cv : Value) : Prop := ∀ p ∈ tb, ∀ C, mg (Str.ofString p.1) = some (.ref C) → ExcC K C ∧ PySem.W.kitOne K (.ref C) cv = some p.2
def lookB (c : String) : List (String × Bool) → Option Bool
  | [] => none
  | p :: r => if p.1 == c then some p.2 else lookB c r
theorem lookB_mem {c : String} {b : Bool} : ∀ {tb : List (String × Bool)}, lookB c tb = some b → (c, b) ∈ tb
  | [], h => by cases h
  | (k, v) :: r, h => by
    simp only [lookB] at h
    split at h
    · rename_i e
      have e' : k = c := by simpa using e
      cases h; subst e'; exact List.mem_cons_self
    · exact List.mem_cons_of_mem _ (lookB_mem h)
def eIsE (i : Nat) (tb : List (String × Bool)) : Ev := fun ρ => (gv ρ i).bind fun d => match d with
  | .exc c _ => (opt (lookB c tb)).bind fun b => .ok (.bl b, ρ)
  | _ => .bad
def rIsD (K : PySem.W.Frag) (a : Addr) (cls : Value) (d : Option Addr) : List V → Hp → VK → Prop := fun xs H Q => ∃ (c : V) (cv : Value) (b : Bool) (D : Addr), xs = [.ref a, c] ∧ (∀ u, RelV c u → u = cv) ∧ ExcC K D ∧ cls = .ref D ∧ (d = none ∨ ∃ dd fs, d = some dd ∧ H dd = some (.xd fs)) ∧ PySem.W.kitOne K (.ref D) cv = some b ∧ Q (.bl b) H
theorem call_isD (hz : Zc cls d oe) (hf : ∃ vs, oe.data = .fields vs) : CallR (X.suite a ((a, oe) :: pn)) (.builtin "isinstance") (rIsD X.K a cls d) := by
  intro pins s σ H xs us Q I r h
  obtain ⟨c, cv, b, D, rfl, hcv, C, ec, hd, e, q⟩ := h
  subst ec
  cases r with
  | cons rx rr =>
    cases rr with
    | cons rt rr =>
      cases rr
      cases rx
      have ec := hcv _ rt
      subst ec
      obtain ⟨hget, _⟩ := I.pin (a, oe) (List.mem_append.mpr (.inl List.mem_cons_self))
      obtain ⟨vs, hv⟩ := hf
      have J : ∃ od, PySem.W.InstAt s.heap a oe D od := by
        rcases hd with hd | ⟨dd, fs, hd, ho⟩
        · subst hd
          obtain ⟨oc, od, oda, osl⟩ := oe
          obtain ⟨h1, h2⟩ := hz
          dsimp only at h1 h2 hv
          subst h1 h2 hv
          exact ⟨none, hget, rfl, rfl, trivial⟩
        · subst hd
          have hx : ObjOk X.prog X.w H s.heap dd (.xd fs) := I.hok dd _ ho
          obtain ⟨mA, hns, hr⟩ := hx
          obtain ⟨od, ho, hl⟩ := lookIn_ns hns
          exact ⟨some od, hget, hz.1, by unfold PySem.W.notCls; rw [hv] <;> rfl, by rw [hz.2]; exact ho⟩
      exact PySem.W.kia_one (PySem.W.vl_kitx C.hg C.hk C.hs C.hd C.ha C.hn C.ht C.hm) I.kIn J e (fun z => nomatch z) fun tk => ⟨.bl b, H, I.kept (t' := tk) fun _ _ z => z, rfl, q⟩
theorem ve_isE {x : Str} {b : Expr} {c : V} {cv : Value} {tb : List (String × Bool)} (hz : L2N.Zn cls d oe) (hf : ∃ vs, oe.data = .fields vs) (hi : Γ[i]? = some (.xc a cls d)) (ht : ITab X.K X.mg tb cv) (hcv : ∀ u, RelV c u → u = cv) 
    (hp : PE (X.suite a ((a, oe) :: pn)) (.Call (.Name x p) [e, b] [] pos) (tCB (rIsD X.K a cls d) (tCons (tVar i) (tCons (tC c) tNil)))) :
    VE (X.suite a ((a, oe) :: pn)) Γ Γ W (.Call (.Name x p) [e, b] [] pos) .fz (eIsE i tb) :=
  peImp hp fun σ H Q ⟨ρ, F, r, q⟩ => by
    obtain ⟨y, hy, q⟩ := gv_sat (Res.sat_bind.mp q)
    cases y <;> first | exact q.elim | skip
    rename_i c' fs
    dsimp only at q
    obtain ⟨bb, hl, q⟩ := opt_sat (Res.sat_bind.mp q)
    obtain ⟨v, w1, w2, c'', fs', w3, C, x1, x2, x3⟩ := r.slot i _ _ hi hy
    cases w3
    subst w2
    obtain ⟨t1, t2⟩ := ht _ (lookB_mem hl) C x1
    refine ⟨_, w1, c, cv, bb, C, rfl, hcv, t1, x2, ?_, t2, q _ H F (Evo.refl r.sub) r rfl⟩
    rcases x3 with ⟨_, x3⟩ | ⟨dd, vs, x3, x4, x5⟩
    · exact .inl x3
    · exact .inr ⟨dd, vs, x3, r.sub _ _ x4⟩
end
open L2H (Hot1 RoomH cxH FnH fn_ofH HotC roomH_mark pe_callH)
theorem fn_okH {P : Program} {w : World} {K : PySem.W.Frag} {mg : Str → Option Value} {base : Heap} {x qual : Str} {st : Stmt} {f : Addr} {fd : FuncData} {N ps : List Str} {k : Nat} {pms : List PM} {rm : Md} {eb : Es} {As : List Nat} {EX : XW}
    (Fn : Fun K x qual st f fd) (S : FnScope N ps (defScope st)) (hp : pms.length = ps.length) (hN : pms.length ≤ N.length)
    (hb : ∀ (cdv : Value) (A : Around) (outer : List PySem.Env) (s : Shared) (H : Hp) (vs : List V) (E : XK) (pp : Addr × Obj), Hot1 A pp → RoomH k (A.deeper (envOfC qual (defScope st) s.heap.objs.size f cdv)) → vs.length = pms.length → (∀ (i : Nat) (v : V), pms[i]? = some PM.io → vs[i]? = some v → ∃ q, v = .ref q) →
      ∃ Γ', (∀ i q, (i, q) ∈ io0 0 pms vs → Γ'[i]? = some (.io q)) ∧
        VSs (cxH CX0 P w K mg base N qual (defScope st) f cdv A outer s H E pp) (g0 pms vs ++ List.replicate (N.length - pms.length) .fz) Γ' ⟨[], As, io0 0 pms vs, rm⟩ WF (defBody st) eb)
    (hr : rm = .own ∨ rm = .fz) :
    FnH P w K mg base CX0 (k + 1) f fd ps (spFn K mg pms rm (fun ds => noexn (fnEv pms N.length eb ds)) EX) := by
  obtain ⟨oc, od, kV, doc, pm, an, cdv, ct, osl, rfl, lk, hcd⟩ := Fn.ex
  refine fn_ofH lk hcd S (fun vs H Q E h => h.1.trans hp) fun A outer s H vs Q E pp hot hroom h => ?_
  obtain ⟨hl, F, ds, sm, pa, nd, q⟩ := h
  have isref : ∀ (i : Nat) (v : V), pms[i]? = some PM.io → vs[i]? = some v → ∃ q, v = .ref q := fun i v h1 h2 => by
    obtain ⟨v', d', k1, k2, k3⟩ := pa.get h1
    rw [h2] at k1; cases k1
    obtain ⟨q, e, _⟩ := k3
    exact ⟨q, e⟩
  obtain ⟨Γ', hΓ, hv⟩ := hb cdv A outer s H vs E pp hot hroom hl isref
  refine ⟨_, hv, ds.map some ++ List.replicate (N.length - ds.length) none, F, ?_⟩
  obtain ⟨r0, o0⟩ := rel_start (N := N) sm pa nd hN
  refine ⟨r0, Res.sat_imp (Res.sat_bind.mp (noexn_sat (E' := fun _ => False) q)) (fun fl _ q => ?_) fun _ h => h.elim⟩
  have back : ∀ {ρ' : Env} {σ' : St} {H' F' : Hp} {Γr : Gm} {outs : List D}, Rel K mg Γr ρ' σ' H' F' → (∀ i q, (i, q) ∈ io0 0 pms vs → Γr[i]? = some (.io q)) → outs.length = (ioIx 0 pms).length → (∀ (k i : Nat) (d : D), (ioIx 0 pms)[k]? = some i → outs[k]? = some d → ρ'[i]? = some (some d)) → IoBack K mg (ioAd pms vs) outs H' F' := fun {ρ' σ' H' F' Γr outs} r hi h1 h2 =>
    ⟨by rw [h1]; exact ioIx_length isref hl, fun k p d e1 e2 => by
      obtain ⟨i, g1, g2⟩ := io0_at (n := 0) isref hl e1
      obtain ⟨v, a1, a2, a3, a4⟩ := r.slot i _ d (hi i p g2) (h2 k i d g1 e2)
      subst a2
      exact ⟨a3, a4⟩⟩
  have fe : ∀ {O' : Ft} {H' F' : Hp}, Evo (Own (g0 pms vs ++ List.replicate (N.length - pms.length) .fz) (ds.map some ++ List.replicate (N.length - ds.length) none) (L2.start N vs)) H F O' H' F' → FEvo (ioAd pms vs) H F H' F' := fun e => ⟨e.sf, e.sh, fun p o k1 k2 k3 => e.kp p o k1 k2 fun z => k3 (o0 p z), e.dom⟩
  cases fl with
  | next ρ' =>
    obtain ⟨outs, q, h1, h2⟩ := outs_sat (Res.sat_bind.mp q)
    exact fun σ' H' F' e k r => q .non H' F' (fe e) (back r hΓ h1 h2) (by
      rcases hr with rfl | rfl
      · exact ⟨by unfold Cell; rw [if_neg (show ¬ cellD .non = true from fun h => nomatch h)]; simp only [rep], fun c => by cases c⟩
      · simp only [RetF, rep])
  | brk ρ' => exact q.elim
  | cont ρ' => exact q.elim
  | ret d ρ' =>
    obtain ⟨outs, q, h1, h2⟩ := outs_sat (Res.sat_bind.mp q)
    refine fun v σ' H' F' Γr e r hi rv => q v H' F' (fe e) (back r hi h1 h2) ?_
    rcases hr with rfl | rfl
    · refine ⟨rv.1, fun c p z => ?_⟩
      rcases rv.2 c p z with k1 | ⟨k1, k2⟩
      · exact k1
      · obtain ⟨j, hj⟩ := List.getElem?_of_mem (o0 p k1)
        obtain ⟨i', g1, g2⟩ := io0_at (n := 0) isref hl hj
        exact absurd rfl (k2 i' p g2)
    · exact rv
theorem hot_suite {X : Cx} {a : Addr} {oe : Obj} {cls : Value} {d : Option Addr} {pn : List (Addr × Obj)} (hz : L2N.Zn cls d oe) (hf : ∃ vs, oe.data = .fields vs) : HotC (X.suite a ((a, oe) :: pn)) := by
  obtain ⟨vs, h⟩ := hf
  exact ⟨(a, oe), ⟨rfl, vs, h, hz.2.2 vs h⟩, List.mem_cons_self⟩
section
variable {X : Cx} {Γ Γ' : Gm} {W : WE} {e : Expr} {es : List Expr} {p pos : Pos} {rm : Md} {as : List Arg} {x : Str} {pms : List PM} {fe : Fe}
theorem pass0S {X : Cx} {E : XK} : ∀ σ, PassesAt CX0 X σ ((fun _ => E) σ) := fun _ _ _ _ _ _ _ h => h.elim
theorem ve_callH (hrm : rm = .own ∨ rm = .fz) (ha : VA X Γ Γ' W (e :: es) as) (hok : okA (ioSl as) pms as = true) (hnd : (ioSl as).Nodup) (hm : mutAll Γ' (ioSl as) = true)
    (hp : ∀ {t : TA}, PA X (e :: es) t → PE X (.Call (.Name x p) (e :: es) [] pos) (tCallS (spFn X.K X.mg pms rm fe EX0) (fun _ => E0) t)) :
    VE X Γ Γ' W (.Call (.Name x p) (e :: es) [] pos) rm (eFn pms fe as) :=
  peImp (hp ha) fun σ H Q h => call_fn_tr (W := W) (EX := EX0) (E := E0) (σ := σ) hok hnd (mutAll_ok hm) (fun _ _ _ _ _ _ _ _ _ _ => trivial) h hrm
end
end VL

set_option Elab.async false
set_option linter.all false
set_option maxRecDepth 100000
/-! VL17: short forms for the printed derivations (exceptions); two names at once. -/
namespace VL
open PySem PySem.Spec PyProof.Rows L2

theorem takesN0 {X : Cx} : L2N.Takes X (fun _ _ _ _ => False) := fun _ _ x => by
  obtain ⟨_, _, _, _, _, _, _, _, _, _, _, _, _, _, _, _, z⟩ := x
  exact z.elim
section
variable {mg : Str → Option Value} {Pr : Addr → Prop} {nm : String} {C0 : Addr} {cs : List String}
theorem tab_nil : ∀ nm' ∈ ([] : List String), ∀ C, mg (Str.ofString nm') = some (.ref C) → Pr C := fun _ h => by cases h
theorem tab_cons (g : mg (Str.ofString nm) = some (.ref C0)) (h : Pr C0) (r : ∀ nm' ∈ cs, ∀ C, mg (Str.ofString nm') = some (.ref C) → Pr C) : ∀ nm' ∈ nm :: cs, ∀ C, mg (Str.ofString nm') = some (.ref C) → Pr C := fun nm' hm C hC => by
  rcases List.mem_cons.mp hm with e | e
  · subst e
    rw [g] at hC; cases hC
    exact h
  · exact r nm' e C hC
variable {Q : Addr → Bool → Prop} {b : Bool} {tb : List (String × Bool)}
theorem itab_nil : ∀ p ∈ ([] : List (String × Bool)), ∀ C, mg (Str.ofString p.1) = some (.ref C) → Q C p.2 := fun _ h => by cases h
theorem itab_cons (g : mg (Str.ofString nm) = some (.ref C0)) (h : Q C0 b) (r : ∀ p ∈ tb, ∀ C, mg (Str.ofString p.1) = some (.ref C) → Q C p.2) : ∀ p ∈ (nm, b) :: tb, ∀ C, mg (Str.ofString p.1) = some (.ref C) → Q C p.2 := fun p hm C hC => by
  rcases List.mem_cons.mp hm with e | e
  · subst e
    rw [g] at hC; cases hC
    exact h
  · exact r p e C hC
end
section
variable {K : PySem.W.Frag} {mg : Str → Option Value} {nm : String} {C0 : Addr} {cs : List String} {b : Bool} {tb : List (String × Bool)} {cv : Value} {f : Str}
theorem itabI_nil : ITab K mg [] cv := itab_nil (Q := fun C b => ExcC K C ∧ PySem.W.kitOne K (.ref C) cv = some b)
theorem itabI_cons (g : mg (Str.ofString nm) = some (.ref C0)) (h : ExcC K C0) (h2 : PySem.W.kitOne K (.ref C0) cv = some b) (r : ITab K mg tb cv) : ITab K mg ((nm, b) :: tb) cv := itab_cons (Q := fun C b => ExcC K C ∧ PySem.W.kitOne K (.ref C) cv = some b) g ⟨h, h2⟩ r
theorem xtab_nil : XTab K mg [] f := tab_nil (Pr := fun C => XfC K C ∧ PySem.W.findIn K (.ref C) f = some none)
theorem xtab_cons (g : mg (Str.ofString nm) = some (.ref C0)) (h : XfC K C0) (h2 : PySem.W.findIn K (.ref C0) f = some none) (r : XTab K mg cs f) : XTab K mg (nm :: cs) f := tab_cons (Pr := fun C => XfC K C ∧ PySem.W.findIn K (.ref C) f = some none) g ⟨h, h2⟩ r
end
/-- the __init__ of a class's text -/
def clsInit : Stmt → Stmt
  | .ClassDef (body := b) .. => b.getD 0 (.Pass ⟨0, 0, 0, 0⟩)
  | s => s
/-! ### facts of classes -/
section
variable {K : PySem.W.Frag} {C D : Addr}
theorem kit_sub {b : Bool} (hd : PySem.W.hasDictIn K C = true) (ht : PySem.W.typeIn K (.ref C) = some (.type "type")) (hs : PySem.W.subIn K (.ref D) (.ref C) = some b) (n : b = true ∨ D ≠ C) : PySem.W.kitOne K (.ref D) (.ref C) = some b := by
  unfold PySem.W.kitOne
  by_cases e : (Value.ref D == Value.ref C) = true
  · rw [if_pos e]
    rcases n with n | n
    · rw [n]
    · exact absurd (Value.ref.inj (beq_iff_eq.mp e)) n
  · rw [if_neg e]
    unfold PySem.W.kitCls
    obtain ⟨cd, hc, _⟩ := PySem.W.any_some hd
    have e2 : ((PySem.W.clsIn K C).isSome && PySem.W.typeIn K (.ref C) == some (.type "type")) = true := by rw [hc, ht] <;> rfl
    dsimp only
    rw [if_pos e2]
    exact hs
theorem kit_ve (hs : PySem.W.subIn K (.ref D) (.type "ValueError") = some true) : PySem.W.kitOne K (.ref D) (.type "ValueError") = some true := by
  unfold PySem.W.kitOne
  rw [if_neg (by intro h; exact absurd (beq_iff_eq.mp h) (by intro z; cases z))]
  unfold PySem.W.kitCls
  dsimp only
  rw [if_pos (by decide +kernel)]
  exact hs
end
/-! ### a tuple of texts of the top -/
theorem ve_globT {X : Cx} {Γ : Gm} {W : WE} {pos : Pos} {x : Str} {ss : List (List Nat)} (hg : Gl X x) (h : ∃ (a : Addr) (o : Obj) (its : Array Value) (n : Nat), X.mg x = some (.ref a) ∧ X.K.lookup a = some o ∧ o.cls = .type "tuple" ∧ o.data = .seq its n ∧ its.size ≤ sizeLine ∧ Vals (ss.map fun l => V.str ⟨l.toArray⟩) its.toList)
    (hd : (x == ("__debug__" : Str)) = false := by decide) : VE X Γ Γ W (.Name x pos) .fz (eC (.tup (ss.map D.str))) := by
  obtain ⟨a, o, its, n, hm, h1, h2, h3, h4, h5⟩ := h
  refine ve_const (v := .ref a) (pe_glob hg hm rfl hd) fun F => ?_
  simp only [rep]
  refine ⟨a, _, rfl, .inr ⟨o, its, n, h1, h2, h3, h4, h5⟩, ?_⟩
  clear h5
  induction ss with
  | nil => exact reps_nil
  | cons l r ih => exact reps_cons (by simp only [rep]) ih
theorem globT_val {w z : Str} {t : Tok} (h : w = z) : RelV (V.str z) (.str w t) := ⟨t, by rw [h]⟩
/-! ### two names at once -/
def sPar (i j : Nat) (as : List Arg) : Es := fun ρ => (Arg.runs as ρ).bind fun p => (Arg.fins as p.1 p.2).bind fun ds => match ds with
  | [x, y] => .ok (.next ((p.2.set i (some x)).set j (some y)))
  | _ => .bad
section
variable {X : Cx} {Γ Γ' Γ1 : Gm} {S : SC} {W : WE} {a b : Expr} {as : List Arg} {pos : Pos}
theorem vs_par {i j : Nat} {x y : Str} {px py pt : Pos} {kt k2 pt2} (hc : X.calm = true) (hN : X.N.Nodup) (hi : X.N[i]? = some x) (hj : X.N[j]? = some y) (hij : i ≠ j)
    (hx : X.env.scope.names.lookup x = some .local) (hy : X.env.scope.names.lookup y = some .local) (ha : VA X Γ Γ1 W [a, b] as) (hv : allVal as = true) (li : i < Γ1.length) (lj : j < Γ1.length) (mi : i ∈ S.As) (mj : j ∈ S.As)
    (hw : swappedStores [.Tuple [.Name x px, .Name y py] kt pt] (.Tuple [a, b] k2 pt2) X.env = pure (some [x, y]) := by rfl)
    (hs : swapsWithSole [.Tuple [.Name x px, .Name y py] kt pt] (.Tuple [a, b] k2 pt2) pos.line X.env = pure false := by rfl) :
    VS X Γ ((Γ1.set i .fz).set j .fz) S W (.Assign [.Tuple [.Name x px, .Name y py] kt pt] (.Tuple [a, b] k2 pt2) pos) (sPar i j as) :=
  psImp (ps_par hc hN hi hj hij hx hy ha hw hs) fun D σ H ⟨ρ, F, r, q⟩ => ⟨ρ, F, r, Res.sat_imp (Res.sat_bind.mp q) (fun z _ q vs H1 F1 e1 r1 b1 => by
    obtain ⟨ds, hds, q⟩ := fins_sat q
    have rr := (b1.fin r1 hds).reps hv
    match ds, rr, q with
    | [d1, d2], rr, q =>
      simp only [reps] at rr
      obtain ⟨v, _, e1', k1, w, _, e2', k2', e3'⟩ := rr
      subst e3'; subst e2'; subst e1'
      refine ⟨v, w, rfl, ?_⟩
      obtain ⟨r2, e2⟩ := r1.setM (m := .fz) li e1 r.brwThere k1 (.inl rfl)
      have b2 : ∀ j' p, (Own (Γ1.set i .fz) (z.2.set i (some d1)) (σ.set i (some v))).b j' p → ∃ o, H1 p = some o := r2.brwThere
      have e3 : Evo (Own Γ ρ σ) H F (Own (Γ1.set i .fz) (z.2.set i (some d1)) (σ.set i (some v))) H1 F1 := e2
      obtain ⟨r4, e4⟩ := r2.setM (m := .fz) (by rw [List.length_set]; exact lj) e3 r.brwThere k2' (.inl rfl)
      exact q _ H1 F1 e4 ((Keep.set mi).trans (Keep.set mj)) r4) fun _ h => h.ex⟩
end
end VL

set_option Elab.async false
set_option linter.all false
set_option maxRecDepth 100000
/-! VL18: how evaluators are reckoned out (plain). -/
namespace VL
open PySem PySem.Spec PyProof.Rows L2

section
variable {d x y : D} {ρ : Env} {n : Nat} {α β : Type}
@[simp] theorem gv_z : gv (some d :: ρ) 0 = .ok d := rfl
@[simp] theorem gv_n : gv (none :: ρ) 0 = .bad := rfl
@[simp] theorem gv_s {x : Option D} : gv (x :: ρ) (n + 1) = gv ρ n := rfl
@[simp] theorem optS (a : α) : opt (some a) = .ok a := rfl
@[simp] theorem optN : opt (none : Option α) = .bad := rfl
theorem bind_ite {c : Prop} [Decidable c] {a b : Res α} {f : α → Res β} : (if c then a else b).bind f = if c then a.bind f else b.bind f := by split <;> rfl
theorem opt_ite {c : Prop} [Decidable c] {a b : Option α} : opt (if c then a else b) = if c then opt a else opt b := by split <;> rfl
@[simp] theorem noexn_bad : noexn (.bad : Res α) = .bad := rfl
@[simp] theorem Opd.run_slot (i : Nat) : (Opd.slot i).run ρ = (gv ρ i).bind fun _ => .ok (none, ρ) := rfl
@[simp] theorem Opd.run_ex (f : Ev) : (Opd.ex f).run ρ = (f ρ).bind fun r => .ok (some r.1, r.2) := rfl
@[simp] theorem Opd.fin_slot (i : Nat) (o : Option D) : (Opd.slot i).fin o ρ = gv ρ i := rfl
@[simp] theorem Opd.fin_ex (f : Ev) : (Opd.ex f).fin (some d) ρ = .ok d := rfl
@[simp] theorem Arg.run_bor (o : Opd) : (Arg.bor o).run ρ = o.run ρ := rfl
@[simp] theorem Arg.run_val (f : Ev) : (Arg.val f).run ρ = (f ρ).bind fun r => .ok (some r.1, r.2) := rfl
@[simp] theorem Arg.run_io (i : Nat) : (Arg.io i).run ρ = (gv ρ i).bind fun _ => .ok (none, ρ) := rfl
@[simp] theorem Arg.fin_bor (o : Opd) (od : Option D) : (Arg.bor o).fin od ρ = o.fin od ρ := rfl
@[simp] theorem Arg.fin_val (f : Ev) (od : Option D) : (Arg.val f).fin od ρ = opt od := rfl
@[simp] theorem Arg.fin_io (i : Nat) (od : Option D) : (Arg.io i).fin od ρ = gv ρ i := rfl
@[simp] theorem Arg.runs_nil : Arg.runs [] ρ = .ok ([], ρ) := rfl
@[simp] theorem Arg.runs_cons (a : Arg) (as : List Arg) : Arg.runs (a :: as) ρ = (a.run ρ).bind fun p => (Arg.runs as p.2).bind fun q => .ok (p.1 :: q.1, q.2) := rfl
@[simp] theorem Arg.fins_nil (l : List (Option D)) : Arg.fins [] l ρ = .ok [] := rfl
@[simp] theorem Arg.fins_cons (a : Arg) (as : List Arg) (od : Option D) (ods : List (Option D)) : Arg.fins (a :: as) (od :: ods) ρ = (a.fin od ρ).bind fun d => (Arg.fins as ods ρ).bind fun ds => .ok (d :: ds) := rfl
@[simp] theorem eC_ap : eC d ρ = .ok (d, ρ) := rfl
@[simp] theorem eVar_ap (i : Nat) : eVar i ρ = (gv ρ i).bind fun d => .ok (d, ρ) := rfl
@[simp] theorem eVarB_ap (i : Nat) : eVarB i ρ = (gv ρ i).bind fun d => if cellD d = true then .bad else .ok (d, ρ) := rfl
@[simp] theorem eTy_ap : eTy ρ = .ok (.non, ρ) := rfl
@[simp] theorem eBin_ap (f : D → D → Option D) (oa ob : Opd) : eBin f oa ob ρ = (oa.run ρ).bind fun p => (ob.run p.2).bind fun s => (oa.fin p.1 s.2).bind fun dx => (ob.fin s.1 s.2).bind fun dy => (opt (f dx dy)).bind fun d => .ok (d, s.2) := rfl
@[simp] theorem eCall_ap (f : List D → Option D) (as : List Arg) : eCall f as ρ = (Arg.runs as ρ).bind fun p => (Arg.fins as p.1 p.2).bind fun ds => (opt (f ds)).bind fun d => .ok (d, p.2) := rfl
@[simp] theorem eTup_ap (as : List Arg) : eTup as ρ = (Arg.runs as ρ).bind fun p => (Arg.fins as p.1 p.2).bind fun ds => (opt (if ds.length ≤ 16777216 then some (.tup ds) else none)).bind fun d => .ok (d, p.2) := rfl
@[simp] theorem eLst_ap (as : List Arg) : eLst as ρ = (Arg.runs as ρ).bind fun p => (Arg.fins as p.1 p.2).bind fun ds => (opt (if ds.length ≤ 16777216 then some (.lst ds) else none)).bind fun d => .ok (d, p.2) := rfl
@[simp] theorem eNeg_ap (a : Ev) : eNeg a ρ = (a ρ).bind fun r => match r.1 with | .int i => .ok (.int (-i), r.2) | _ => .bad := rfl
@[simp] theorem eIf_ap (t : Et) (a b : Ev) : eIf t a b ρ = (t ρ).bind fun r => if r.1 = true then a r.2 else b r.2 := rfl
@[simp] theorem eTB_ap (a : Ev) : eTB a ρ = (a ρ).bind fun r => match r.1 with | .bl b => .ok (b, r.2) | _ => .bad := rfl
@[simp] theorem eTru_ap (o : Opd) : eTru o ρ = (o.run ρ).bind fun p => (o.fin p.1 p.2).bind fun d => (opt (truD d)).bind fun b => .ok (b, p.2) := rfl
@[simp] theorem eAnd_ap (a b : Et) : eAnd a b ρ = (a ρ).bind fun r => if r.1 = true then b r.2 else .ok (false, r.2) := rfl
@[simp] theorem eOr_ap (a b : Et) : eOr a b ρ = (a ρ).bind fun r => if r.1 = true then .ok (true, r.2) else b r.2 := rfl
@[simp] theorem eNot_ap (a : Et) : eNot a ρ = (a ρ).bind fun r => .ok (!r.1, r.2) := rfl
@[simp] theorem eAndV_ap (a b : Ev) : eAndV a b ρ = (a ρ).bind fun r => match r.1 with | .bl true => b r.2 | .bl false => .ok (.bl false, r.2) | _ => .bad := rfl
@[simp] theorem eOrV_ap (a b : Ev) : eOrV a b ρ = (a ρ).bind fun r => match r.1 with | .bl true => .ok (.bl true, r.2) | .bl false => b r.2 | _ => .bad := rfl
@[simp] theorem eNotV_ap (a : Ev) : eNotV a ρ = (a ρ).bind fun r => match r.1 with | .bl b => .ok (.bl (!b), r.2) | _ => .bad := rfl
@[simp] theorem eNotT_ap (o : Opd) : eNotT o ρ = (o.run ρ).bind fun p => (o.fin p.1 p.2).bind fun d => (opt (truD d)).bind fun b => .ok (.bl (!b), p.2) := rfl
@[simp] theorem runI_n : runI none ρ = .ok (none, ρ) := rfl
@[simp] theorem runI_s (f : Ev) : runI (some f) ρ = (f ρ).bind fun r => match r.1 with | .int i => .ok (some i, r.2) | _ => .bad := rfl
@[simp] theorem eSl_ap (oa : Opd) (lo hi : Option Ev) : eSl oa lo hi ρ = (oa.run ρ).bind fun p => (runI lo p.2).bind fun q => (runI hi q.2).bind fun r => (oa.fin p.1 r.2).bind fun da => (opt (dSlice da q.1 r.1)).bind fun d => .ok (d, r.2) := rfl
@[simp] theorem eChain_ap (f f' : D → D → Option D) (oa ob oc : Opd) : eChain f f' oa ob oc ρ = (oa.run ρ).bind fun p => (ob.run p.2).bind fun s => (oa.fin p.1 s.2).bind fun dx => (ob.fin s.1 s.2).bind fun dy => (opt (f dx dy)).bind fun d => match d with
  | .bl true => (oc.run s.2).bind fun t => (ob.fin s.1 t.2).bind fun dy => (oc.fin t.1 t.2).bind fun dz => (opt (f' dy dz)).bind fun d => .ok (d, t.2)
  | .bl false => .ok (.bl false, s.2)
  | _ => .bad := rfl
@[simp] theorem tYesE_ap : tYesE ρ = .ok (true, ρ) := rfl
@[simp] theorem eRng_ap (as : List Arg) : eRng as ρ = (Arg.runs as ρ).bind fun p => (Arg.fins as p.1 p.2).bind fun ds => (opt (rngOf ds)).bind fun l => .ok (l, p.2) := rfl
@[simp] theorem eIt_ap (f : Ev) : eIt f ρ = (f ρ).bind fun r => (opt (itD r.1)).bind fun l => .ok (l, r.2) := rfl
@[simp] theorem eEnum_ap (f : Ev) : eEnum f ρ = (f ρ).bind fun r => match r.1 with | .lst l => .ok (enumD 0 l, r.2) | .str l => .ok (enumD 0 (l.map fun c => .str [c]), r.2) | _ => .bad := rfl
/-! statements -/
@[simp] theorem sNil_ap : sNil ρ = .ok (.next ρ) := rfl
@[simp] theorem sPass_ap : sPass ρ = .ok (.next ρ) := rfl
@[simp] theorem sBrk_ap : sBrk ρ = .ok (.brk ρ) := rfl
@[simp] theorem sCont_ap : sCont ρ = .ok (.cont ρ) := rfl
@[simp] theorem sSeq_ap (a b : Es) : sSeq a b ρ = (a ρ).bind fun fl => match fl with | .next ρ' => b ρ' | x => .ok x := rfl
@[simp] theorem sExpr_ap (f : Ev) : sExpr f ρ = (f ρ).bind fun r => .ok (.next r.2) := rfl
@[simp] theorem sRet_ap (f : Ev) : sRet f ρ = (f ρ).bind fun r => .ok (.ret r.1 r.2) := rfl
@[simp] theorem sRetN_ap : sRetN ρ = .ok (.ret .non ρ) := rfl
@[simp] theorem sIf_ap (t : Et) (a b : Es) : sIf t a b ρ = (t ρ).bind fun r => if r.1 = true then a r.2 else b r.2 := rfl
@[simp] theorem sSet_ap (i : Nat) (f : Ev) : sSet i f ρ = (f ρ).bind fun r => .ok (.next (r.2.set i (some r.1))) := rfl
@[simp] theorem sAug_ap (i : Nat) (f : D → D → Option D) (fe : Ev) : sAug i f fe ρ = (gv ρ i).bind fun x => (fe ρ).bind fun r => (opt (f x r.1)).bind fun d => .ok (.next (r.2.set i (some d))) := rfl
@[simp] theorem sAsg_ap (t : Tg) (f : Ev) : sAsg t f ρ = (f ρ).bind fun r => (opt (bindT t r.1 r.2)).bind fun ρ' => .ok (.next ρ') := rfl
@[simp] theorem sFor_ap (it : Eit) (tg : Tg) (body : Es) : sFor it tg body ρ = (it ρ).bind fun p => forL tg body p.1 p.2 := rfl
@[simp] theorem sPar_ap (i j : Nat) (as : List Arg) : sPar i j as ρ = (Arg.runs as ρ).bind fun p => (Arg.fins as p.1 p.2).bind fun ds => match ds with | [x, y] => .ok (.next ((p.2.set i (some x)).set j (some y))) | _ => .bad := rfl
@[simp] theorem sRaise_ap (c : String) (fs : List String) (as : List Arg) : sRaise c fs as ρ = (Arg.runs as ρ).bind fun p => (Arg.fins as p.1 p.2).bind fun ds => if ds.length = fs.length then .exn ⟨c, (fs.zip ds).reverse⟩ else .bad := rfl
@[simp] theorem bindT_name (i : Nat) : bindT (.name i) d ρ = some (ρ.set i (some d)) := rfl
@[simp] theorem bindT_tup (l : List Tg) (ds : List D) : bindT (.tup l) (.tup ds) ρ = bindTs l ds ρ := rfl
@[simp] theorem bindTs_nil : bindTs [] [] ρ = some ρ := rfl
@[simp] theorem bindTs_cons (t : Tg) (ts : List Tg) (ds : List D) : bindTs (t :: ts) (d :: ds) ρ = (bindT t d ρ).bind fun ρ' => bindTs ts ds ρ' := rfl
/-! data -/
variable {i j k : Int} {l a b : List D} {u v : List Nat} {p q : Bool}
@[simp] theorem dAdd_int : dAdd (.int i) (.int j) = some (.int (i + j)) := rfl
@[simp] theorem dAdd_lst (h : a.length + b.length ≤ 16777216) : dAdd (.lst a) (.lst b) = some (.lst (a ++ b)) := if_pos h
@[simp] theorem dAdd_tup (h : a.length + b.length ≤ 16777216) : dAdd (.tup a) (.tup b) = some (.tup (a ++ b)) := if_pos h
@[simp] theorem dAdd_str (h : u.length + v.length ≤ 16777216) : dAdd (.str u) (.str v) = some (.str (u ++ v)) := if_pos h
@[simp] theorem dSub_int : dSub (.int i) (.int j) = some (.int (i - j)) := rfl
theorem dMul_int : dMul (.int i) (.int j) = if cMulB i j = true then some (.int (i * j)) else none := rfl
@[simp] theorem dMod_int (h : j ≠ 0) : dMod (.int i) (.int j) = some (.int (i.fmod j)) := by
  unfold dMod dInt2 cModB; simp [h]
@[simp] theorem dFdiv_int (h : j ≠ 0) (h2 : j.natAbs < 1073741824) : dFdiv (.int i) (.int j) = some (.int (i.fdiv j)) := by
  unfold dFdiv dInt2 cDivB; simp [h, h2]
@[simp] theorem dLt_int : dLt (.int i) (.int j) = some (.bl (decide (i < j))) := rfl
@[simp] theorem dLe_int : dLe (.int i) (.int j) = some (.bl (decide (i ≤ j))) := rfl
@[simp] theorem dGt_int : dGt (.int i) (.int j) = some (.bl (decide (j < i))) := rfl
@[simp] theorem dGe_int : dGe (.int i) (.int j) = some (.bl (decide (j ≤ i))) := rfl
@[simp] theorem dEq_int : dEq (.int i) (.int j) = some (.bl (i == j)) := by unfold dEq; simp [scalD, eqD]
@[simp] theorem dNe_int : dNe (.int i) (.int j) = some (.bl (i != j)) := (if_pos (Or.inl rfl)).trans (by simp only [eqD]; rfl)
@[simp] theorem dEq_str : dEq (.str u) (.str v) = some (.bl (u == v)) := by unfold dEq; simp [scalD, eqD]
@[simp] theorem dNe_str : dNe (.str u) (.str v) = some (.bl (u != v)) := (if_pos (Or.inl rfl)).trans (by simp only [eqD]; rfl)
@[simp] theorem dEq_bl : dEq (.bl p) (.bl q) = some (.bl (p == q)) := by unfold dEq; simp [scalD, eqD]
@[simp] theorem dNe_bl : dNe (.bl p) (.bl q) = some (.bl (p != q)) := (if_pos (Or.inl rfl)).trans (by simp only [eqD]; rfl)
@[simp] theorem dIx_lst : dIx (.lst l) (.int i) = atI l i := rfl
@[simp] theorem dIx_tup : dIx (.tup l) (.int i) = atI l i := rfl
@[simp] theorem dIsN_non : dIsN d .non = some (.bl (isNonD d)) := rfl
@[simp] theorem dNotN_non : dNotN d .non = some (.bl (!isNonD d)) := rfl
@[simp] theorem isNonD_non : isNonD .non = true := rfl
@[simp] theorem isNonD_int : isNonD (.int i) = false := rfl
@[simp] theorem isNonD_lst : isNonD (.lst l) = false := rfl
@[simp] theorem isNonD_tup : isNonD (.tup l) = false := rfl
@[simp] theorem isNonD_str : isNonD (.str u) = false := rfl
@[simp] theorem isNonD_bl : isNonD (.bl p) = false := rfl
@[simp] theorem truD_bl : truD (.bl p) = some p := rfl
@[simp] theorem truD_int : truD (.int i) = some (i != 0) := rfl
@[simp] theorem truD_lst : truD (.lst l) = some (!l.isEmpty) := rfl
@[simp] theorem fLen_lst : fLen [.lst l] = some (.int l.length) := rfl
@[simp] theorem fLen_tup : fLen [.tup l] = some (.int l.length) := rfl
@[simp] theorem fLen_str (h : u.length ≤ 16777216) : fLen [.str u] = some (.int u.length) := if_pos h
@[simp] theorem fInt_int : fInt [.int i] = some (.int i) := rfl
@[simp] theorem fInt_bl : fInt [.bl p] = some (.int (if p then 1 else 0)) := rfl
@[simp] theorem fAbs_int : fAbs [.int i] = some (.int (if i < 0 then -i else i)) := rfl
@[simp] theorem fList_lst : fList [.lst l] = some (.lst l) := rfl
@[simp] theorem fList_tup : fList [.tup l] = some (.lst l) := rfl
@[simp] theorem fList_scr (s : List Int) : fList [.scr s] = some (.lst (s.map .int)) := rfl
@[simp] theorem fTuple_lst : fTuple [.lst l] = some (.tup l) := rfl
@[simp] theorem fTuple_tup : fTuple [.tup l] = some (.tup l) := rfl
@[simp] theorem fMax2_int : fMax2 [.int i, .int j] = some (.int (if j > i then j else i)) := rfl
@[simp] theorem fMin2_int : fMin2 [.int i, .int j] = some (.int (if j < i then j else i)) := rfl
@[simp] theorem itD_lst : itD (.lst l) = some l := rfl
@[simp] theorem itD_tup : itD (.tup l) = some l := rfl
@[simp] theorem itD_str : itD (.str u) = some (u.map fun c => .str [c]) := rfl
theorem at_nat {n : Nat} {x : α} {xs : List α} (h : xs[n]? = some x) : atI xs (n : Int) = some x := by
  have hl : n < xs.length := by
    rcases Nat.lt_or_ge n xs.length with q | q
    · exact q
    · rw [List.getElem?_eq_none q] at h; cases h
  unfold atI ixN
  rw [if_pos (by omega), if_pos (by omega)]
  simpa using h
end
/-! ### defs -/
section
variable {α : Type}
@[simp] theorem fIsi_two {T : String} {d e : D} : fIsi T [d, e] = (tyD d).map fun t => .bl (isiB t T) := rfl
end
end VL

set_option Elab.async false
set_option linter.all false
set_option maxRecDepth 100000
/-! VL19: the draws. -/
namespace VL
open PySem PySem.Spec PyProof.Rows L2
def drS1 : Es := (sIf (eAnd (eTB (eBin dEq (.ex (eBin dIx (.slot 0) (.ex (eC (.int 2))))) (.ex (eC (.int 0))))) (eTB (eBin dLt (.ex (eBin dIx (.slot 0) (.ex (eC (.int 1))))) (.ex (eCall fLen [.bor (.ex (eBin dIx (.slot 0) (.ex (eC (.int 0)))))]))))) (sSeq (sSet 2 (eCall fAbs [.bor (.ex (eCall fInt [.bor (.ex (eBin dIx (.ex (eBin dIx (.slot 0) (.ex (eC (.int 0))))) (.ex (eBin dIx (.slot 0) (.ex (eC (.int 1)))))))]))])) (sSeq (sAugIx 0 (fun i j => i + j) (eC (.int 1)) (eC (.int 1))) (sIf (eTB (eBin dGe (.slot 2) (.ex (eBin dPow (.ex (eC (.int 10))) (.ex (eC (.int 18))))))) (sSetIx 0 (eC (.int 2)) (eVar 2)) (sSetIx 0 (eC (.int 3)) (eBin dMod (.ex (eCall fInt [.bor (.ex (eBin dAdd (.ex (eBin dAdd (.ex (eBin dMul (.ex (eBin dIx (.slot 0) (.ex (eC (.int 3))))) (.ex (eC (.int 48271))))) (.ex (eBin dMul (.slot 2) (.ex (eC (.int 69621))))))) (.ex (eBin dIx (.slot 0) (.ex (eC (.int 1)))))))])) (.ex (eC (.int 2147483647)))))))) sNil)
def drS2 : Es := (sIf (eTB (eBin dGt (.ex (eBin dIx (.slot 0) (.ex (eC (.int 2))))) (.ex (eC (.int 0))))) (sSeq (sSet 3 (eBin dMod (.ex (eCall fInt [.bor (.ex (eBin dIx (.slot 0) (.ex (eC (.int 2)))))])) (.slot 1))) (sSeq (sSetIx 0 (eC (.int 2)) (eBin dFdiv (.ex (eBin dIx (.slot 0) (.ex (eC (.int 2))))) (.slot 1))) (sRet (eVar 3)))) sNil)
def drS3 : Es := (sSeq (sSetIx 0 (eC (.int 3)) (eBin dMod (.ex (eCall fInt [.bor (.ex (eBin dAdd (.ex (eBin dMul (.ex (eBin dIx (.slot 0) (.ex (eC (.int 3))))) (.ex (eC (.int 16807))))) (.ex (eC (.int 12345)))))])) (.ex (eC (.int 2147483647))))) (sSeq (sSet 4 (eBin dMod (.ex (eCall fInt [.bor (.ex (eBin dAdd (.ex (eBin dMul (.ex (eBin dIx (.slot 0) (.ex (eC (.int 3))))) (.ex (eBin dIx (.slot 0) (.ex (eC (.int 3))))))) (.ex (eBin dIx (.slot 0) (.ex (eC (.int 3)))))))])) (.ex (eC (.int 2147483629))))) (sRet (eBin dMod (.ex (eBin dFdiv (.slot 4) (.ex (eC (.int 11))))) (.slot 1)))))
def bDraw : Es := sSeq drS1 (sSeq drS2 drS3)
def vDraw : Fe := fun ds => noexn (fnEv [.io, .brw] 5 bDraw ds)
/-- the feed of a law -/
def fd (l : List Int) (i a b : Int) : D := .lst [.lst (l.map .int), .int i, .int a, .int b]
def Feed (d : D) : Prop := ∃ (l : List Int) (i a b : Int), d = fd l i a b ∧ 0 ≤ i ∧ 0 ≤ a ∧ 0 ≤ b ∧ b < 2147483647
@[simp] theorem at0 {x : D} {l : List D} : L2.atI (x :: l) 0 = some x := at_nat (n := 0) rfl
@[simp] theorem at1 {x y : D} {l : List D} : L2.atI (x :: y :: l) 1 = some y := at_nat (n := 1) rfl
@[simp] theorem at2 {x y z : D} {l : List D} : L2.atI (x :: y :: z :: l) 2 = some z := at_nat (n := 2) rfl
@[simp] theorem at3 {x y z w : D} {l : List D} : L2.atI (x :: y :: z :: w :: l) 3 = some w := at_nat (n := 3) rfl
theorem pow18 : dPow (.int 10) (.int 18) = some (.int 1000000000000000000) := by
  show (if cPowB 10 18 = true then some (D.int (10 ^ (18 : Int).toNat)) else none) = _
  rw [if_pos (by decide)]
  rfl
theorem fmod_lo {a m : Int} (h : 0 < m) : 0 ≤ a.fmod m ∧ a.fmod m < m := ⟨Int.fmod_nonneg_of_pos a h, Int.fmod_lt_of_pos a h⟩
theorem fdiv_lo {a m : Int} (h : 0 < m) (ha : 0 ≤ a) : 0 ≤ a.fdiv m := Int.fdiv_nonneg ha (Int.le_of_lt h)
theorem dr1 {l : List Int} {i a b m : Int} (hi : 0 ≤ i) (ha : 0 ≤ a) (hb : 0 ≤ b) (hb2 : b < 2147483647) :
    ∃ i' a' b' x, drS1 [some (fd l i a b), some (.int m), none, none, none] = .ok (.next [some (fd l i' a' b'), some (.int m), x, none, none]) ∧ 0 ≤ i' ∧ 0 ≤ a' ∧ 0 ≤ b' ∧ b' < 2147483647 := by
  by_cases h : a = 0 ∧ i < l.length
  · obtain ⟨h1, h2⟩ := h
    subst h1
    obtain ⟨n, rfl⟩ : ∃ n : Nat, i = n := ⟨i.toNat, by omega⟩
    have hn : n < l.length := by omega
    have hx : L2.atI (l.map D.int) (n : Int) = some (.int l[n]) := at_nat (by rw [List.getElem?_map, List.getElem?_eq_getElem hn]; rfl)
    by_cases hc : 1000000000000000000 ≤ (if l[n] < 0 then -l[n] else l[n])
    · refine ⟨n + 1, (if l[n] < 0 then -l[n] else l[n]), b, some (.int (if l[n] < 0 then -l[n] else l[n])), ?_, by omega, by omega, hb, hb2⟩
      have h2' : n < l.length := hn
      simp [drS1, fd, h2', hx, sAugIx, sSetIx, L2.ixN, pow18, hc]
    · have e : (b * 48271 + (if l[n] < 0 then -l[n] else l[n]) * 69621 + (n + 1)).fmod 2147483647 = (b * 48271 + (if l[n] < 0 then -l[n] else l[n]) * 69621 + (n + 1)).fmod 2147483647 := rfl
      obtain ⟨g1, g2⟩ := fmod_lo (a := b * 48271 + (if l[n] < 0 then -l[n] else l[n]) * 69621 + (n + 1)) (m := 2147483647) (by omega)
      refine ⟨n + 1, 0, _, some (.int (if l[n] < 0 then -l[n] else l[n])), ?_, by omega, by omega, g1, g2⟩
      have m1 : dMul (.int b) (.int 48271) = some (.int (b * 48271)) := by rw [dMul_int, if_pos (by unfold cMulB; simp)]
      have m2 : dMul (.int (if l[n] < 0 then -l[n] else l[n])) (.int 69621) = some (.int ((if l[n] < 0 then -l[n] else l[n]) * 69621)) := by rw [dMul_int, if_pos (by unfold cMulB; simp)]
      simp [drS1, fd, hn, hx, sAugIx, sSetIx, L2.ixN, pow18, hc, m1, m2]
  · refine ⟨i, a, b, none, ?_, hi, ha, hb, hb2⟩
    by_cases h1 : a = 0
    · have h2 : ¬ i < l.length := fun z => h ⟨h1, z⟩
      subst h1
      simp [drS1, fd, h2]
    · have e : (a == 0) = false := by simpa using h1
      simp [drS1, fd, e]
theorem draw_ok {d : D} {m : Int} (h : Feed d) (h0 : 0 < m) (h1 : m < 1073741824) : ∃ r d', vDraw [d, .int m] = .ok (.int r, [d']) ∧ 0 ≤ r ∧ r < m ∧ Feed d' := by
  obtain ⟨l, i, a, b, rfl, hi, ha, hb, hb2⟩ := h
  obtain ⟨i', a', b', x, e, hi', ha', hb', hb2'⟩ := dr1 (l := l) (m := m) hi ha hb hb2
  have e2 : m ≠ 0 := by omega
  have e3 : m.natAbs < 1073741824 := by omega
  have st : vDraw [fd l i a b, .int m] = noexn ((sSeq drS2 drS3 [some (fd l i' a' b'), some (.int m), x, none, none]).bind fun fl => match fl with
    | .ret d ρ => (outsOf (ioIx 0 [PM.io, PM.brw]) ρ).bind fun os => .ok (d, os)
    | .next ρ => (outsOf (ioIx 0 [PM.io, PM.brw]) ρ).bind fun os => .ok (.non, os)
    | _ => .bad) := by
    unfold vDraw fnEv bDraw
    show noexn ((sSeq drS1 (sSeq drS2 drS3) [some (fd l i a b), some (.int m), none, none, none]).bind _) = _
    rw [sSeq_ap drS1, e]
    rfl
  rw [st]
  by_cases h : 0 < a'
  · obtain ⟨g1, g2⟩ := fmod_lo (a := a') h0
    refine ⟨a'.fmod m, fd l i' (a'.fdiv m) b', ?_, g1, g2, l, i', _, b', rfl, hi', fdiv_lo h0 ha', hb', hb2'⟩
    simp [drS2, drS3, fd, h, e2, e3, sSetIx, L2.ixN, outsOf, ioIx]
  · obtain ⟨b1, b2⟩ := fmod_lo (a := b' * 16807 + 12345) (m := 2147483647) (by omega)
    obtain ⟨B, hB⟩ : ∃ B, B = (b' * 16807 + 12345).fmod 2147483647 := ⟨_, rfl⟩
    rw [← hB] at b1 b2
    obtain ⟨g1, g2⟩ := fmod_lo (a := ((B * B + B).fmod 2147483629).fdiv 11) h0
    refine ⟨_, fd l i' a' B, ?_, g1, g2, l, i', a', B, rfl, hi', ha', b1, b2⟩
    have m1 : dMul (.int b') (.int 16807) = some (.int (b' * 16807)) := by rw [dMul_int, if_pos (by unfold cMulB; simp)]
    have m2 : dMul (.int B) (.int B) = some (.int (B * B)) := by rw [dMul_int, if_pos (by unfold cMulB; exact decide_eq_true (.inl (by omega)))]
    simp [drS2, drS3, fd, h, e2, e3, sSetIx, L2.ixN, outsOf, ioIx, m1, ← hB, m2]
end VL

set_option Elab.async false
set_option linter.all false
set_option maxRecDepth 100000
/-! VL20: loops, comprehensions, cuts (plain). -/
namespace VL
open PySem PySem.Spec PyProof.Rows L2

@[simp] theorem eFn_ap (pms : List PM) (f : Fe) (as : List Arg) (ρ : Env) : eFn pms f as ρ = (Arg.runs as ρ).bind fun p => (Arg.fins as p.1 p.2).bind fun ds => if ioCells pms ds = true then (f ds).bind fun r => .ok (r.1, setOuts (ioSl as) r.2 p.2) else .bad := rfl
@[simp] theorem eFn0_ap (f : Fe) (ρ : Env) : eFn0 f ρ = (f []).bind fun r => .ok (r.1, ρ) := rfl
@[simp] theorem ioCells_io {ms : List PM} {d : D} {ds : List D} : ioCells (.io :: ms) (d :: ds) = (cellD d && ioCells ms ds) := rfl
@[simp] theorem ioCells_fz {ms : List PM} {d : D} {ds : List D} : ioCells (.fz :: ms) (d :: ds) = ioCells ms ds := rfl
@[simp] theorem ioCells_brw {ms : List PM} {d : D} {ds : List D} : ioCells (.brw :: ms) (d :: ds) = ioCells ms ds := rfl
@[simp] theorem ioCells_nil : ioCells [] [] = true := rfl
@[simp] theorem ioSl_io {i : Nat} {as : List Arg} : ioSl (.io i :: as) = i :: ioSl as := rfl
@[simp] theorem ioSl_bor {o : Opd} {as : List Arg} : ioSl (.bor o :: as) = ioSl as := rfl
@[simp] theorem ioSl_val {f : Ev} {as : List Arg} : ioSl (.val f :: as) = ioSl as := rfl
@[simp] theorem ioSl_nil : ioSl [] = [] := rfl
@[simp] theorem setOuts_cons {i : Nat} {is : List Nat} {d : D} {ds : List D} {ρ : Env} : setOuts (i :: is) (d :: ds) ρ = (setOuts is ds ρ).set i (some d) := rfl
@[simp] theorem setOuts_nil {ds : List D} {ρ : Env} : setOuts [] ds ρ = ρ := by cases ds <;> rfl
@[simp] theorem cellD_lst {l : List D} : cellD (.lst l) = true := rfl
theorem Feed.cell {d : D} (h : Feed d) : cellD d = true := by obtain ⟨l, i, a, b, rfl, _⟩ := h; rfl
theorem Feed.isL {d : D} (h : Feed d) : isLst d = true := by obtain ⟨l, i, a, b, rfl, _⟩ := h; rfl
@[simp] theorem outsOf_nil {ρ : Env} : outsOf [] ρ = .ok [] := rfl
@[simp] theorem outsOf_cons {ρ : Env} {i : Nat} {is : List Nat} : outsOf (i :: is) ρ = (gv ρ i).bind fun d => (outsOf is ρ).bind fun ds => .ok (d :: ds) := rfl
@[simp] theorem wipeE_nil {ρ : Env} : wipeE ρ [] = ρ := rfl
@[simp] theorem wipeE_cons {ρ : Env} {v : Nat} {vs : List Nat} : wipeE ρ (v :: vs) = (wipeE ρ vs).set v none := rfl
@[simp] theorem backE_nil {ρ1 ρ2 : Env} : backE ρ1 ρ2 [] = ρ2 := rfl
@[simp] theorem backE_cons {ρ1 ρ2 : Env} {v : Nat} {vs : List Nat} : backE ρ1 ρ2 (v :: vs) = (backE ρ1 ρ2 vs).set v ((ρ1[v]?).getD none) := rfl
@[simp] theorem ioIx_io {i : Nat} {ms : List PM} : ioIx i (.io :: ms) = i :: ioIx (i + 1) ms := rfl
@[simp] theorem ioIx_fz {i : Nat} {ms : List PM} : ioIx i (.fz :: ms) = ioIx (i + 1) ms := rfl
@[simp] theorem ioIx_brw {i : Nat} {ms : List PM} : ioIx i (.brw :: ms) = ioIx (i + 1) ms := rfl
@[simp] theorem ioIx_nil {i : Nat} : ioIx i [] = [] := rfl
@[simp] theorem eMut_ap (i : Nat) (f : List D → List D → Option (List D × D)) (as : List Arg) (ρ : Env) : eMut i f as ρ = (gv ρ i).bind fun d0 => if isLst d0 = true then (Arg.runs as ρ).bind fun p => (Arg.fins as p.1 p.2).bind fun ds => (gv p.2 i).bind fun d => match d with
  | .lst l => (opt (f l ds)).bind fun r => .ok (r.2, p.2.set i (some (.lst r.1)))
  | _ => .bad
  else .bad := by
  first | rfl | (unfold eMut; rfl)
@[simp] theorem isLst_lst {l : List D} : isLst (.lst l) = true := rfl
@[simp] theorem mAppend_one {l : List D} {d : D} (h : l.length < 16777216) : mAppend l [d] = some (l ++ [d], .non) := if_pos h

/-! ### loops -/
theorem forL_inv {tg : Tg} {body : Es} {P : List D → Env → Prop} (step : ∀ d ds ρ, P (d :: ds) ρ → ∃ ρ1, bindT tg d ρ = some ρ1 ∧ ∃ ρ2, (body ρ1 = .ok (.next ρ2) ∨ body ρ1 = .ok (.cont ρ2)) ∧ P ds ρ2) :
    ∀ (items : List D) (ρ : Env), P items ρ → ∃ ρ', forL tg body items ρ = .ok (.next ρ') ∧ P [] ρ'
  | [], ρ, h => ⟨ρ, rfl, h⟩
  | d :: ds, ρ, h => by
    obtain ⟨ρ1, e1, ρ2, e2, h2⟩ := step d ds ρ h
    obtain ⟨ρ', e3, h3⟩ := forL_inv step ds ρ2 h2
    refine ⟨ρ', ?_, h3⟩
    unfold forL
    rw [e1]
    rcases e2 with e2 | e2 <;> (simp only [optS, Res.bind_ok, e2]; exact e3)
/-- a walk that ends at the first item of a kind; ks: the items' keys -/
theorem forL_keys {σ : Type} {tg : Tg} {body : Es} {g : Nat → D} {c : Nat → Bool} {ρf : σ → Env} {E : Nat → Res Fl} :
    ∀ (ks : List Nat) (s : σ), (∀ k ∈ ks, (∃ x, E k = .exn x) ∨ ∃ d ρ, E k = .ok (.ret d ρ)) → (∀ k ∈ ks, ∀ s, ∃ ρ1, bindT tg (g k) (ρf s) = some ρ1 ∧ (c k = true → body ρ1 = E k) ∧ (c k = false → ∃ s', body ρ1 = .ok (.next (ρf s')))) →
    (∃ k, ks.find? c = some k ∧ forL tg body (ks.map g) (ρf s) = E k) ∨ (ks.find? c = none ∧ ∃ s', forL tg body (ks.map g) (ρf s) = .ok (.next (ρf s')))
  | [], s, _, _ => .inr ⟨rfl, s, rfl⟩
  | k :: ks, s, hE, step => by
    obtain ⟨ρ1, e1, h1, h2⟩ := step k List.mem_cons_self s
    cases hc : c k with
    | true =>
      refine .inl ⟨k, by simp [hc], ?_⟩
      have e : forL tg body ((k :: ks).map g) (ρf s) = body ρ1 := by
        show (opt (bindT tg (g k) (ρf s))).bind _ = _
        rw [e1]
        simp only [optS, Res.bind_ok]
        rw [h1 hc]
        rcases hE k List.mem_cons_self with ⟨x, e⟩ | ⟨d, ρ, e⟩ <;> rw [e] <;> rfl
      rw [e, h1 hc]
    | false =>
      obtain ⟨s', e2⟩ := h2 hc
      have e : forL tg body ((k :: ks).map g) (ρf s) = forL tg body (ks.map g) (ρf s') := by
        show (opt (bindT tg (g k) (ρf s))).bind _ = _
        rw [e1]
        simp only [optS, Res.bind_ok, e2]
      rw [e]
      rcases forL_keys ks s' (fun k' h => hE k' (List.mem_cons_of_mem _ h)) (fun k' h => step k' (List.mem_cons_of_mem _ h)) with ⟨k', g1, g2⟩ | ⟨g1, g2⟩
      · exact .inl ⟨k', by simp [hc, g1], g2⟩
      · exact .inr ⟨by simp [hc, g1], g2⟩
theorem enumD_map (l : List D) : enumD 0 l = (List.range l.length).map fun k : Nat => .tup [.int (k : Nat), (l[k]?).getD .non] := by
  apply List.ext_getElem?
  intro i
  rw [enumD_get]
  by_cases h : i < l.length
  · rw [List.getElem?_eq_getElem h, List.getElem?_map, List.getElem?_range h]
    simp [List.getD, List.getElem?_eq_getElem h]
  · rw [List.getElem?_eq_none (by omega), List.getElem?_map, List.getElem?_eq_none (by simp; omega)]
    rfl
/-- a walk that ends at the first item of a kind -/
def Exits (r : Res Fl) : Prop := (∃ d ρ, r = .ok (.ret d ρ)) ∨ ∃ x, r = .exn x
theorem forL_find {tg : Tg} {body : Es} {I : Env → Prop} {c : D → Bool} {X : D → Res Fl → Prop} :
    ∀ (items : List D) (ρ : Env), (∀ d ∈ items, ∀ ρ, I ρ → ∃ ρ1, bindT tg d ρ = some ρ1 ∧ ((c d = true ∧ X d (body ρ1) ∧ Exits (body ρ1)) ∨ (c d = false ∧ ∃ ρ2, body ρ1 = .ok (.next ρ2) ∧ I ρ2))) → I ρ →
    (∃ d, items.find? c = some d ∧ X d (forL tg body items ρ) ∧ Exits (forL tg body items ρ)) ∨ (items.find? c = none ∧ ∃ ρ', forL tg body items ρ = .ok (.next ρ') ∧ I ρ')
  | [], ρ, _, h => .inr ⟨rfl, ρ, rfl, h⟩
  | d :: ds, ρ, step, h => by
    obtain ⟨ρ1, e1, ⟨k1, k2, k3⟩ | ⟨k1, ρ2, e2, h2⟩⟩ := step d List.mem_cons_self ρ h
    · have e : forL tg body (d :: ds) ρ = body ρ1 := by
        unfold forL
        rw [e1]
        simp only [optS, Res.bind_ok]
        rcases k3 with ⟨y, ρ', e⟩ | ⟨x, e⟩ <;> rw [e] <;> rfl
      rw [e]
      exact .inl ⟨d, by simp [k1], k2, k3⟩
    · have e : forL tg body (d :: ds) ρ = forL tg body ds ρ2 := by
        show (opt (bindT tg d ρ)).bind _ = _
        rw [e1]
        simp only [optS, Res.bind_ok, e2]
      rw [e]
      rcases forL_find ds ρ2 (fun d' hd => step d' (List.mem_cons_of_mem _ hd)) h2 with ⟨d', g1, g2⟩ | ⟨g1, g2⟩
      · exact .inl ⟨d', by simp [k1, g1], g2⟩
      · exact .inr ⟨by simp [k1, g1], g2⟩
/-! ### comprehensions -/
theorem lcGo_all {vs : List Nat} {tg : Tg} {elt : Ev} {I : Env → Prop} {R : D → Prop} :
    ∀ (items acc : List D) (ρ : Env), (∀ d ∈ items, ∀ ρ, I ρ → ∃ ρ1, bindT tg d ρ = some ρ1 ∧ ∃ y ρ3, elt ρ1 = .ok (y, ρ3) ∧ R y ∧ I (wipeE ρ3 vs)) → I ρ →
    ∃ out ρ', lcGo vs tg tYesE elt items acc ρ = .ok (acc ++ out, ρ') ∧ I ρ' ∧ out.length = items.length ∧ ∀ y ∈ out, R y
  | [], acc, ρ, _, h => ⟨[], ρ, by simp [lcGo], h, rfl, by simp⟩
  | d :: ds, acc, ρ, step, h => by
    obtain ⟨ρ1, e1, y, ρ3, e3, r, h3⟩ := step d List.mem_cons_self ρ h
    obtain ⟨out, ρ', e, h', hl, hr⟩ := lcGo_all ds (acc ++ [y]) _ (fun d' hd => step d' (List.mem_cons_of_mem _ hd)) h3
    refine ⟨y :: out, ρ', ?_, h', by simp [hl], ?_⟩
    · unfold lcGo
      simp only [e1, optS, Res.bind_ok, tYesE_ap, noexn_ok, if_true, e3]
      rw [e]; simp
    · intro z hz
      rcases List.mem_cons.mp hz with rfl | hz
      · exact r
      · exact hr z hz
theorem eLC_all {it : Eit} {vs : List Nat} {tg : Tg} {elt : Ev} {ρ ρ0 : Env} {items : List D} (I : Env → Prop) (R : D → Prop) (hi : it ρ = .ok (items, ρ0)) (hl : items.length ≤ 16777216) (h0 : I (wipeE ρ0 vs))
    (step : ∀ d ∈ items, ∀ ρ, I ρ → ∃ ρ1, bindT tg d ρ = some ρ1 ∧ ∃ y ρ3, elt ρ1 = .ok (y, ρ3) ∧ R y ∧ I (wipeE ρ3 vs)) :
    ∃ out ρ', eLC it vs tg tYesE elt ρ = .ok (.lst out, backE ρ0 ρ' vs) ∧ I ρ' ∧ out.length = items.length ∧ ∀ y ∈ out, R y := by
  obtain ⟨out, ρ', e, h⟩ := lcGo_all items [] _ step h0
  refine ⟨out, ρ', ?_, h⟩
  unfold eLC
  rw [hi]
  simp only [Res.bind_ok, if_pos hl, e, List.nil_append]
/-- a comprehension that leaves the environment as it is: map -/
theorem lcGo_map {vs : List Nat} {tg : Tg} {elt : Ev} {f : D → D} {ρ : Env} : ∀ (items acc : List D), (∀ d ∈ items, ∃ ρ1, bindT tg d ρ = some ρ1 ∧ ∃ ρ3, elt ρ1 = .ok (f d, ρ3) ∧ wipeE ρ3 vs = ρ) →
    lcGo vs tg tYesE elt items acc ρ = .ok (acc ++ items.map f, ρ)
  | [], acc, _ => by simp [lcGo]
  | d :: ds, acc, step => by
    obtain ⟨ρ1, e1, ρ3, e3, h3⟩ := step d List.mem_cons_self
    unfold lcGo
    simp only [e1, optS, Res.bind_ok, tYesE_ap, noexn_ok, if_true, e3, h3]
    rw [lcGo_map ds (acc ++ [f d]) fun d' hd => step d' (List.mem_cons_of_mem _ hd)]
    simp
theorem eLC_map {it : Eit} {vs : List Nat} {tg : Tg} {elt : Ev} {ρ ρ0 : Env} {items : List D} (f : D → D) (hi : it ρ = .ok (items, ρ0)) (hl : items.length ≤ 16777216)
    (step : ∀ d ∈ items, ∃ ρ1, bindT tg d (wipeE ρ0 vs) = some ρ1 ∧ ∃ ρ3, elt ρ1 = .ok (f d, ρ3) ∧ wipeE ρ3 vs = wipeE ρ0 vs) :
    eLC it vs tg tYesE elt ρ = .ok (.lst (items.map f), backE ρ0 (wipeE ρ0 vs) vs) := by
  unfold eLC
  rw [hi]
  simp only [Res.bind_ok, if_pos hl]
  rw [lcGo_map items [] step]
  simp
/-! ### cuts -/
theorem cut_to {α : Type} {l : List α} {k : Int} (h : 0 ≤ k) : cutA l none (some k) = l.take k.toNat := by
  unfold cutA HT.sIx
  simp only [Nat.sub_zero, List.drop_zero]
  rw [if_neg (by omega)]
  rw [List.take_eq_take_iff]
  omega
theorem cut_from {α : Type} {l : List α} {k : Int} (h : 0 ≤ k) : cutA l (some k) none = l.drop k.toNat := by
  unfold cutA HT.sIx
  simp only []
  rw [if_neg (by omega)]
  by_cases hk : k.toNat ≤ l.length
  · rw [Nat.min_eq_left hk, List.take_of_length_le (by simp)]
  · rw [Nat.min_eq_right (by omega), List.drop_of_length_le (Nat.le_refl _), List.drop_of_length_le (by omega)]
    simp
@[simp] theorem dSlice_lst {l : List D} {lo hi : Option Int} : dSlice (.lst l) lo hi = some (.lst (cutA l lo hi)) := rfl
@[simp] theorem dSlice_tup {l : List D} {lo hi : Option Int} : dSlice (.tup l) lo hi = some (.tup (cutA l lo hi)) := rfl
@[simp] theorem dSlice_str {l : List Nat} {lo hi : Option Int} (h : l.length ≤ 16777216) : dSlice (.str l) lo hi = some (.str (cutA l lo hi)) := if_pos h
theorem joinL_nil : ∀ ns : List (List Nat), TL.joinL [] ns = ns.flatten
  | [] => rfl
  | [x] => by simp [TL.joinL]
  | x :: y :: r => by
    have := joinL_nil (y :: r)
    simp only [TL.joinL, List.append_nil, List.flatten_cons] at this ⊢
    rw [this, List.nil_append]
theorem join1 {P : Nat → Prop} : ∀ {out : List D}, (∀ y ∈ out, ∃ c, y = .str [c] ∧ P c) → out.length ≤ 16777216 → ∃ ow : List Nat, fJoin [] [.lst out] = some (.str ow) ∧ ow.length = out.length ∧ ∀ c ∈ ow, P c := fun {out} h hl => by
  have key : ∀ {out : List D}, (∀ y ∈ out, ∃ c, y = .str [c] ∧ P c) → ∃ ow : List Nat, out = (ow.map fun c => [c]).map D.str ∧ ∀ c ∈ ow, P c := by
    intro out
    induction out with
    | nil => exact fun _ => ⟨[], rfl, by simp⟩
    | cons y r ih =>
      intro h
      obtain ⟨ow, e, k⟩ := ih fun z hz => h z (List.mem_cons_of_mem _ hz)
      obtain ⟨c, e2, k2⟩ := h y List.mem_cons_self
      exact ⟨c :: ow, by rw [e, e2]; rfl, fun z hz => (List.mem_cons.mp hz).elim (fun q => q ▸ k2) (k z)⟩
  obtain ⟨ow, e, k⟩ := key h
  subst e
  refine ⟨ow, ?_, by simp, k⟩
  unfold fJoin
  dsimp only
  rw [strsOf_map]
  simp only [Option.bind_some]
  have hs : ((ow.map fun c => [c]).map List.length).sum = ow.length := by
    clear hl k h
    induction ow with
    | nil => rfl
    | cons c r ih => simp only [List.map_cons, List.sum_cons, List.length_cons, List.length_nil] at ih ⊢; omega
  have hf : (ow.map fun c => [c]).flatten = ow := by
    clear hl k h hs
    induction ow with
    | nil => rfl
    | cons c r ih => simp only [List.map_cons, List.flatten_cons, ih]; rfl
  rw [if_pos (by rw [hs]; simp at hl ⊢; exact hl), joinL_nil, hf]
theorem rng1 {j : Int} (h : j < 4611686018427387904) (h2 : -4611686018427387904 < j) : rngOf [.int j] = some ((List.range j.toNat).map fun k => D.int (k : Nat)) := by
  unfold rngOf
  dsimp only
  rw [if_pos (rB_iff.mpr ⟨h, h2⟩)]
  simp
theorem rngLen {m : Nat} (h : m ≤ 16777216) : rngOf [.int (m : Int)] = some ((List.range m).map fun k : Nat => D.int (k : Nat)) := by
  have h2 : (m : Int) < 4611686018427387904 := by omega
  have h3 : -4611686018427387904 < (m : Int) := by omega
  have := rng1 h2 h3
  rw [Int.toNat_natCast] at this
  exact this
theorem eRng_of {a : Arg} {ρ ρ' : Env} {o : Option D} {d : D} {l : List D} (h1 : a.run ρ = .ok (o, ρ')) (h2 : a.fin o ρ' = .ok d) (h3 : rngOf [d] = some l) : eRng [a] ρ = .ok (l, ρ') := by
  have k1 : Arg.runs [a] ρ = .ok ([o], ρ') := by rw [Arg.runs_cons, h1]; rfl
  have k2 : Arg.fins [a] [o] ρ' = .ok [d] := by rw [Arg.fins_cons, h2]; rfl
  rw [eRng_ap, k1, Res.bind_ok]
  dsimp only
  rw [k2, Res.bind_ok, h3]
  rfl
theorem eRng_len {i : Nat} {ρ : Env} {l : List D} {m : Nat} (h : gv ρ i = .ok (.lst l)) (e : l.length = m) (hl : m ≤ 16777216) : eRng [.val (eCall fLen [.bor (.slot i)])] ρ = .ok ((List.range m).map fun k : Nat => D.int (k : Nat), ρ) := by
  subst e
  exact eRng_of (o := some (.int (l.length : Int))) (by simp [h]) rfl (rngLen hl)
theorem eRng_var {i : Nat} {ρ : Env} {n : Int} (h : gv ρ i = .ok (.int n)) (h1 : n < 4611686018427387904) (h2 : -4611686018427387904 < n) : eRng [.val (eVar i)] ρ = .ok ((List.range n.toNat).map fun k : Nat => D.int (k : Nat), ρ) :=
  eRng_of (o := some (.int n)) (by simp [h]) rfl (rng1 h1 h2)
theorem eRng_lit {ρ : Env} {n : Int} (h1 : n < 4611686018427387904) (h2 : -4611686018427387904 < n) : eRng [.val (eC (.int n))] ρ = .ok ((List.range n.toNat).map fun k : Nat => D.int (k : Nat), ρ) :=
  eRng_of (o := some (.int n)) rfl rfl (rng1 h1 h2)
theorem sTry_ok {i : Nat} {ws : List Nat} {cs : List String} {body suite : Es} {ρ : Env} {fl : Fl} (h : body ρ = .ok fl) : sTry i ws cs body suite ρ = .ok fl := by
  unfold sTry; rw [h]
theorem sTry_ret {i : Nat} {ws : List Nat} {cs : List String} {body suite : Es} {ρ ρ' : Env} {x : Exn} {d : D} (h : body ρ = .exn x) (hc : cs.contains x.cls = true) (hs : suite ((wipeE ρ ws).set i (some (.exc x.cls x.fs))) = .ok (.ret d ρ')) : sTry i ws cs body suite ρ = .ok (.ret d ρ') := by
  unfold sTry; rw [h]; dsimp only; rw [if_pos hc, hs]
@[simp] theorem eXf_ap (i : Nat) (cs : List String) (f : String) (ρ : Env) : eXf i cs f ρ = (gv ρ i).bind fun d => match d with
  | .exc c fs => if cs.contains c = true then (opt (lookF f fs)).bind fun y => .ok (y, ρ) else .bad
  | _ => .bad := rfl
@[simp] theorem eIsE_ap (i : Nat) (tb : List (String × Bool)) (ρ : Env) : eIsE i tb ρ = (gv ρ i).bind fun d => match d with
  | .exc c _ => (opt (lookB c tb)).bind fun b => .ok (.bl b, ρ)
  | _ => .bad := rfl
end VL
namespace VL
theorem seq_next {a b : Es} {ρ ρ' : Env} (h : a ρ = .ok (.next ρ')) : sSeq a b ρ = b ρ' := by rw [sSeq_ap, h]; rfl
theorem seq_ret {a b : Es} {ρ ρ' : Env} {d : D} (h : a ρ = .ok (.ret d ρ')) : sSeq a b ρ = .ok (.ret d ρ') := by rw [sSeq_ap, h]; rfl
theorem seq_exn {a b : Es} {ρ : Env} {x : Exn} (h : a ρ = .exn x) : sSeq a b ρ = .exn x := by rw [sSeq_ap, h]; rfl
theorem for_eq {it : Eit} {tg : Tg} {body : Es} {ρ ρ0 : Env} {l : List D} (h : it ρ = .ok (l, ρ0)) : sFor it tg body ρ = forL tg body l ρ0 := by rw [sFor_ap, h]; rfl
theorem fn_ret {pms : List PM} {n : Nat} {b : Es} {ds os : List D} {d : D} {ρ' : Env} (h : b (ds.map some ++ List.replicate (n - ds.length) none) = .ok (.ret d ρ')) (ho : outsOf (ioIx 0 pms) ρ' = .ok os) : noexn (fnEv pms n b ds) = .ok (d, os) := by
  unfold fnEv; rw [h]; simp only [Res.bind_ok, ho]; rfl
/-- a block that answers -/
def Runs (s : Es) (ρ : Env) (Q : D → Env → Prop) : Prop := ∃ d ρ', s ρ = .ok (.ret d ρ') ∧ Q d ρ'
theorem runs_seq {a b : Es} {ρ ρ' : Env} {Q : D → Env → Prop} (h : a ρ = .ok (.next ρ')) (k : Runs b ρ' Q) : Runs (sSeq a b) ρ Q := by
  obtain ⟨d, ρ2, e, q⟩ := k
  exact ⟨d, ρ2, by rw [sSeq_ap, h]; exact e, q⟩
theorem runs_for {it : Eit} {tg : Tg} {body b : Es} {ρ ρ0 : Env} {l : List D} {Q : D → Env → Prop} (h : it ρ = .ok (l, ρ0)) (k : ∃ ρ', forL tg body l ρ0 = .ok (.next ρ') ∧ Runs b ρ' Q) : Runs (sSeq (sFor it tg body) b) ρ Q := by
  obtain ⟨ρ', e, k⟩ := k
  exact runs_seq (by rw [sFor_ap, h]; exact e) k
theorem runs_ret {f : Ev} {ρ ρ' : Env} {d : D} {Q : D → Env → Prop} (h : f ρ = .ok (d, ρ')) (k : Q d ρ') : Runs (sRet f) ρ Q := ⟨d, ρ', by rw [sRet_ap, h]; rfl, k⟩
/-- a def by its block -/
theorem fn_runs {pms : List PM} {n : Nat} {b : Es} {ds : List D} {P : D → List D → Prop} (h : Runs b (ds.map some ++ List.replicate (n - ds.length) none) fun d ρ => ∃ os, outsOf (ioIx 0 pms) ρ = .ok os ∧ P d os) : ∃ d os, noexn (fnEv pms n b ds) = .ok (d, os) ∧ P d os := by
  obtain ⟨d, ρ, e, os, h1, h2⟩ := h
  exact ⟨d, os, by unfold fnEv; rw [e]; simp only [Res.bind_ok, h1]; rfl, h2⟩
end VL

set_option Elab.async false
set_option linter.all false
set_option maxRecDepth 100000
/-! VL21: a slot of one's own is lent while an expression only reads it. -/
namespace VL
open PySem PySem.Spec PyProof.Rows L2
def eLend (i : Nat) (ev : Ev) : Ev := fun ρ => (gv ρ i).bind fun d => (ev ρ).bind fun r => .ok (r.1, r.2.set i (some d))
theorem eLend_ap (i : Nat) (ev : Ev) (ρ : Env) : eLend i ev ρ = (gv ρ i).bind fun d => (ev ρ).bind fun r => .ok (r.1, r.2.set i (some d)) := rfl
section
variable {K : PySem.W.Frag} {mg : Str → Option Value} {Γ Γ' : Gm} {ρ ρ' : Env} {σ : St} {H F H' F' : Hp} {i : Nat} {d : D}
theorem RdN.less {O O' : Ft} {v : V} (r : RdN K mg O H F v d) (h : ∀ p, O'.o p → O.o p) : RdN K mg O' H F v d := by
  unfold RdN at r ⊢
  split
  · rename_i hc
    rw [if_pos hc] at r
    obtain ⟨p, o, e, h1, c, k⟩ := r
    refine ⟨p, o, e, h1, c, k.imp (fun z => z) fun ⟨a, b⟩ => ⟨a, fun z => b (h p z)⟩⟩
  · rename_i hc
    rw [if_neg hc] at r
    exact r
theorem Rel.lend (r : Rel K mg Γ ρ σ H F) (hm : Γ[i]? = some .own) : Rel K mg (Γ.set i .brw) ρ σ H F :=
  ⟨r.lr, by rw [List.length_set]; exact r.lg, fun j m d' g1 g2 => by
    rcases set_get g1 with ⟨e, rfl, _⟩ | ⟨e, g1⟩
    · subst e
      obtain ⟨v, h1, h2⟩ := r.slot i _ d' hm g2
      have h2 : Cell K mg H F v d' := h2
      refine ⟨v, h1, ?_⟩
      refine Cell.rdN h2 fun p e c ⟨j, z⟩ => ?_
      obtain ⟨z, n⟩ := z.of_set rfl
      exact n (r.inj j i p z ⟨_, d', hm, rfl, g2, c, by rw [h1, e]⟩)
    · obtain ⟨v, h1, h2⟩ := r.slot j m d' g1 g2
      refine ⟨v, h1, ?_⟩
      cases m with
      | brw => exact RdN.less h2 fun p z => Own.of_set rfl z
      | _ => exact h2, fun a b p g1 g2 => r.inj a b p (g1.of_set rfl).1 (g2.of_set rfl).1, r.sub⟩
theorem OwnAt.set_both {j : Nat} {p : Addr} (h : OwnAt (Γ.set i .own) (ρ.set i (some d)) σ j p) : (j = i ∧ cellD d = true ∧ σ[i]? = some (some (.ref p))) ∨ (j ≠ i ∧ OwnAt Γ ρ σ j p) := by
  obtain ⟨m, d', g1, g2, g3, g4, g5⟩ := h
  rcases set_get g3 with ⟨e, e2, _⟩ | ⟨e, g3⟩
  · subst e; cases e2; exact .inl ⟨rfl, g4, g5⟩
  · refine .inr ⟨fun z => e z.symm, m, d', ?_, g2, g3, g4, g5⟩
    rwa [List.getElem?_set_ne e] at g1
theorem BrwAt.set_both {j : Nat} {p : Addr} (h : BrwAt (Γ.set i .own) (ρ.set i (some d)) σ j p) : j ≠ i ∧ BrwAt Γ ρ σ j p := by
  obtain ⟨d', g1, g3, g4, g5⟩ := h
  rcases set_get g1 with ⟨e, e2, _⟩ | ⟨e, g1⟩
  · cases e2
  · refine ⟨fun z => e z.symm, d', g1, ?_, g4, g5⟩
    rwa [List.getElem?_set_ne e] at g3
variable {X : Cx} {W : WE} {e : Expr} {m : Md} {ev : Ev}
theorem ve_lend {i : Nat} (h : VE X (Γ.set i .brw) Γ' W e m ev) (hl : i < Γ'.length := by exact ltB rfl) (hm : Γ[i]? = some .own := by rfl) : VE X Γ (Γ'.set i .own) W e m (eLend i ev) :=
  peImp h fun σ H Q ⟨ρ, F, r, q⟩ => by
    obtain ⟨d, hd, q⟩ := gv_sat (Res.sat_bind.mp q)
    obtain ⟨v0, hv, hc⟩ := r.slot i _ d hm hd
    have hc : Cell X.K X.mg H F v0 d := hc
    have rb := r.lend hm
    have ownP : ∀ p, cellD d = true → σ[i]? = some (some (.ref p)) → OwnAt Γ ρ σ i p := fun p c e => ⟨_, d, hm, rfl, hd, c, e⟩
    have less : ∀ p, (Own (Γ.set i .brw) ρ σ).o p → (Own Γ ρ σ).o p := fun p z => Own.of_set rfl z
    refine ⟨ρ, F, rb, Res.sat_imp (Res.sat_bind.mp q) (fun z _ q v H' F' e1 r1 vo => ?_) fun x hx H' F' O' ee => ?_⟩
    · -- back to one's own
      have notO : ∀ p, cellD d = true → σ[i]? = some (some (.ref p)) → ¬ (Own (Γ.set i .brw) ρ σ).o p := fun p c e ⟨j, z⟩ => by
        obtain ⟨z, n⟩ := z.of_set rfl
        exact n (r.inj j i p z (ownP p c e))
      have there : ∀ p, cellD d = true → σ[i]? = some (some (.ref p)) → ∃ o, H p = some o ∧ F p = none := fun p c e => Own.there r ⟨i, ownP p c e⟩
      have notO' : ∀ p, cellD d = true → σ[i]? = some (some (.ref p)) → ¬ (Own Γ' z.2 σ).o p := fun p c e k => by
        obtain ⟨o, h1, h2⟩ := there p c e
        rcases e1.ow p k with w | w
        · exact notO p c e w
        · rw [h1] at w; cases w
      have cell' : Cell X.K X.mg H' F' v0 d := by
        unfold Cell at hc ⊢
        split
        · rename_i cc
          rw [if_pos cc] at hc
          obtain ⟨p, o, e2, h1, c, f⟩ := hc
          subst e2
          obtain ⟨k1, k2⟩ := e1.kp p o h1 f (notO p cc hv)
          exact ⟨p, o, rfl, k1, cont_mono e1.sf c, k2⟩
        · rename_i cc
          rw [if_neg cc] at hc
          exact rep_mono e1.sf hc
      have sub2 : ∀ p, (Own (Γ'.set i .own) (z.2.set i (some d)) σ).o p → (cellD d = true ∧ σ[i]? = some (some (.ref p))) ∨ (Own Γ' z.2 σ).o p := fun p ⟨j, k⟩ => by
        rcases k.set_both with ⟨rfl, c, e2⟩ | ⟨_, k⟩
        · exact .inl ⟨c, e2⟩
        · exact .inr ⟨j, k⟩
      have brw2 : ∀ j p, BrwAt (Γ'.set i .own) (z.2.set i (some d)) σ j p → BrwAt Γ ρ σ j p := fun j p k => by
        obtain ⟨n, k⟩ := k.set_both
        have k2 := e1.ob j p k
        obtain ⟨d', g1, g2⟩ := k2
        rw [List.getElem?_set_ne (fun w => n w.symm)] at g1
        exact ⟨d', g1, g2⟩
      have e2 : Evo (Own Γ ρ σ) H F (Own (Γ'.set i .own) (z.2.set i (some d)) σ) H' F' := e1.mono less (fun p k => by
        rcases sub2 p k with ⟨c, e2⟩ | k
        · exact .inl ⟨i, ownP p c e2⟩
        · exact (e1.ow p k).imp (less p) fun w => w) brw2
      have hiσ : i < σ.length := by
        rcases Nat.lt_or_ge i σ.length with w | w
        · exact w
        · rw [List.getElem?_eq_none w] at hv; cases hv
      have r2 : Rel X.K X.mg (Γ'.set i .own) (z.2.set i (some d)) σ H' F' :=
        ⟨by rw [List.length_set]; exact r1.lr, by rw [List.length_set]; exact r1.lg, fun j m d' g1 g2 => by
          rcases set_get g2 with ⟨e3, e4, _⟩ | ⟨e3, g2⟩
          · subst e3; cases e4
            rw [List.getElem?_set_self hl] at g1; cases g1
            exact ⟨v0, hv, cell'⟩
          · rw [List.getElem?_set_ne e3] at g1
            obtain ⟨w, w1, w2⟩ := r1.slot j m d' g1 g2
            refine ⟨w, w1, ?_⟩
            cases m with
            | brw =>
              have w2 : RdN X.K X.mg (Own Γ' z.2 σ) H' F' w d' := w2
              show RdN X.K X.mg _ H' F' w d'
              unfold RdN at w2 ⊢
              split
              · rename_i cc
                rw [if_pos cc] at w2
                obtain ⟨p, o, rfl, k1, k2, k3⟩ := w2
                refine ⟨p, o, rfl, k1, k2, k3.imp (fun z => z) fun ⟨k4, k5⟩ => ⟨k4, fun k6 => ?_⟩⟩
                rcases sub2 p k6 with ⟨c, e5⟩ | k6
                · -- a borrowed slot holds another object
                  obtain ⟨o', t1, t2⟩ := there p c e5
                  obtain ⟨dd, b1, b2, b3, b4⟩ := e1.ob j p ⟨d', g1, g2, cc, w1⟩
                  rw [List.getElem?_set_ne e3] at b1
                  obtain ⟨u, u1, u2⟩ := r.slot j _ dd b1 b2
                  have u2 : RdN X.K X.mg (Own Γ ρ σ) H F u dd := u2
                  rw [b4] at u1; cases u1
                  unfold RdN at u2
                  rw [if_pos b3] at u2
                  obtain ⟨p2, o2, e6, s1, _, s3⟩ := u2
                  cases e6
                  rcases s3 with s3 | ⟨_, s3⟩
                  · rw [t2] at s3; cases s3
                  · exact s3 ⟨i, ownP p c e5⟩
                · exact k5 k6
              · rename_i cc
                rw [if_neg cc] at w2
                exact w2
            | fz => exact w2
            | own => exact w2
            | io q => exact w2
            | xc a b c => exact w2, fun a b p g1 g2 => by
          rcases g1.set_both with ⟨e3, c, e4⟩ | ⟨e3, g1⟩
          · rcases g2.set_both with ⟨e5, _, _⟩ | ⟨e5, g2⟩
            · rw [e3, e5]
            · exact absurd ⟨b, g2⟩ (notO' p c e4)
          · rcases g2.set_both with ⟨e5, c, e6⟩ | ⟨e5, g2⟩
            · exact absurd ⟨a, g1⟩ (notO' p c e6)
            · exact r1.inj a b p g1 g2, r1.sub⟩
      refine q v H' F' e2 r2 ?_
      cases m with
      | own =>
        refine ⟨vo.1, fun c p e3 => ⟨(vo.2 c p e3).1, fun k => ?_⟩⟩
        rcases sub2 p k with ⟨c2, e4⟩ | k
        · obtain ⟨o, t1, _⟩ := there p c2 e4
          rw [(vo.2 c p e3).1] at t1; cases t1
        · exact (vo.2 c p e3).2 k
      | fz => exact vo
      | brw => exact vo
      | io q => exact vo
      | xc a b c => exact vo
    · exact hx H' F' ⟨O'.o, fun _ _ => False⟩ (ee.mono less (fun p k => (ee.ow p k).imp (less p) fun w => w) fun _ _ k => k.elim)
variable {Γ1 Γ2 : Gm} {S : SC} {pos pos' : Pos}
theorem vs_setE {i : Nat} {x : Str} (hN : X.N.Nodup) (hi : X.N[i]? = some x) (hx : Loc X.env.scope x) (h : VE X Γ Γ1 W e m ev) (hm : m = .fz ∨ m = .own) (hl : i < Γ1.length) (ha : i ∈ S.As) (hs : swapsWith e (some (.Name x pos')) pos.line X.env = pure false := by rfl)
    (hf : X.fn x = true ∨ X.env.scope.names.lookup x = some .local := by first | exact .inl rfl | exact .inr rfl | assumption) (hΓ : Γ1.set i m = Γ2 := by rfl) : VS X Γ Γ2 S W (.Assign [.Name x pos'] e pos) (sSet i ev) := by
  subst hΓ
  exact vs_set hN hi hx h hm hl ha hs hf
end
end VL

set_option Elab.async false
set_option linter.all false
set_option maxRecDepth 100000
/-! VL22: str, gcd, extend, &, list.index. -/
namespace VL
open PySem PySem.Spec PyProof.Rows L2
section
variable {X : Cx} {K : PySem.W.Frag} {mg : Str → Option Value}
/-! ### str -/
def strI (i : Int) : List Nat := (Str.ofString (toString i)).cps.toList
def fStr : List D → Option D
  | [.int i] => if Nat.ble i.natAbs 18446744073709551615 = true then some (.str (strI i)) else none
  | [.str a] => some (.str a)
  | _ => none
theorem log_le {n : Nat} (h : Nat.ble n 18446744073709551615 = true) : n.log2 < 1920 := by
  have h := Nat.le_of_ble_eq_true h
  by_cases h0 : n = 0
  · subst h0; decide
  · have : n < 2 ^ 64 := by omega
    have := (Nat.log2_lt h0).mpr this
    omega
theorem c_str : CallF K mg fStr (fun xs H Q => (∃ i, xs = [.int i] ∧ i.natAbs.log2 < 1920 ∧ Q (.str (toString i)) H) ∨ ∃ a, xs = [.str a] ∧ Q (.str a) H) .fz := by
  intro H F vs ds d Q s r hf q
  unfold fStr at hf
  split at hf
  · split at hf <;> cases hf
    rename_i hi
    obtain ⟨v, w, rfl, h1, rfl⟩ := r
    rw [h1.int]
    exact .inl ⟨_, rfl, log_le hi, q _ H F (Grow.refl s) (.atom rfl (by simp only [rep, strI]))⟩
  · cases hf
    obtain ⟨v, w, rfl, h1, rfl⟩ := r
    rw [h1.str]
    exact .inr ⟨_, rfl, q _ H F (Grow.refl s) (.atom rfl (by simp only [rep]))⟩
  · cases hf
theorem b_str : CallR X (.type "str") (fun xs H Q => (∃ i, xs = [.int i] ∧ i.natAbs.log2 < 1920 ∧ Q (.str (toString i)) H) ∨ ∃ a, xs = [.str a] ∧ Q (.str a) H) := call_str_int.or SkE.call_str_str
/-! ### gcd -/
def fGcd : List D → Option D
  | [.int a, .int b] => some (.int ((Nat.gcd a.natAbs b.natAbs : Nat) : Int))
  | _ => none
theorem c_gcd : CallF K mg fGcd rGcd .fz := by
  intro H F vs ds d Q s r hf q
  unfold fGcd at hf
  split at hf <;> cases hf
  obtain ⟨v, w, rfl, h1, v2, w2, rfl, h2, rfl⟩ := r
  rw [h1.int, h2.int]
  exact ⟨_, _, rfl, q _ H F (Grow.refl s) (.atom rfl rfl)⟩
/-! ### & -/
def dAnd : D → D → Option D
  | .int i, .int j => some (.int (Builtin.bitAnd i j))
  | _, _ => none
theorem f_and : OpF K mg dAnd (rI0 fun i j => .int (Builtin.bitAnd i j)) .fz := by
  intro H F v w a b d Q s ra rb hf q
  unfold dAnd at hf
  split at hf
  · cases hf
    exact ⟨_, _, ra.int, rb.int, q _ H F (Grow.refl s) (.atom rfl rfl)⟩
  · cases hf
/-! ### extend -/
def mExtend : List D → List D → Option (List D × D)
  | l, [.lst b] => if l.length + b.length ≤ 16777216 then some (l ++ b, .non) else none
  | _, _ => none
theorem m_extend : MtF K mg mExtend rExtend := by
  intro H F p ws l ds vs l' u Q s hp rl rd hf q
  unfold mExtend at hf
  split at hf
  · split at hf <;> cases hf
    rename_i b hl
    simp only [reps] at rd
    obtain ⟨v, w, rfl, h1, rfl⟩ := rd
    simp only [rep] at h1
    obtain ⟨p2, ws2, rfl, h2, h3⟩ := h1
    exact ⟨p, p2, ws, ws2, rfl, rfl, hp, s _ _ h2, by rw [sizeLine_eq, reps_length rl, reps_length h3]; exact hl, q _ _ (reps_append rl h3) rfl⟩
  · cases hf
end
section
variable {X : Cx} {Γ Γ' Γ1 Γ2 Γ3 : Gm} {W : WE} {o e : Expr} {es : List Expr} {pos p apos cpos : Pos} {m : Md} {as : List Arg} {i : Nat} {name : Str} {id : String} {r : V → List V → Hp → VK → Prop}
/-- f(e, ..), f a module's name for a built-in function -/
theorem ve_callBf {x : Str} {f : List D → Option D} {r : List V → Hp → VK → Prop} (hc : CallR X (.builtin id) r) (hf : CallF X.K X.mg f r m) (hg : Gl X x) (hm : X.mg x = some (.builtin id)) (ha : VA X Γ Γ' W (e :: es) as) (hdb : (x == ("__debug__" : Str)) = false := by decide)
    (he : starEach (e :: es) X.env = (false, eval e X.env) :: starEach es X.env := by rfl) (hpl : (backTo pos (starEach es X.env)).any (·.1) = false := by rfl) : VE X Γ Γ' W (.Call (.Name x p) (e :: es) [] pos) m (eCall f as) :=
  peImp (pe_callBfun hc hg hm ha hdb he hpl) fun _ _ _ h => call_tr hf h
/-! ### a method that only reads its list -/
def MthF (K : PySem.W.Frag) (mg : Str → Option Value) (f : List D → List D → Option D) (r : V → List V → Hp → VK → Prop) : Prop :=
  ∀ H F v l vs ds u Q, Same F H → Rdd K mg H F v (.lst l) → Rdds K mg H F vs ds → f l ds = some u → (∀ w, cellD u = false → rep K mg F u w → Q w H) → r v vs H Q
def eMth (i : Nat) (f : List D → List D → Option D) (as : List Arg) : Ev := fun ρ => (gv ρ i).bind fun d0 => if isLst d0 = true then (Arg.runs as ρ).bind fun p => (Arg.fins as p.1 p.2).bind fun ds => (gv p.2 i).bind fun d => match d with
  | .lst l => (opt (f l ds)).bind fun q => .ok (q, p.2)
  | _ => .bad
  else .bad
theorem ve_mth {f : List D → List D → Option D} (hf : MthF X.K X.mg f r) (slot : Slot "list" name id) (hty : typeOf (.builtin id) = pure (.type "method_descriptor")) (hr : MtR X id r) (ho : PE X o (tVar i)) (ha : VA X Γ Γ1 W (e :: es) as)
    (hbase : attributeBase o name X.env (eval o X.env) = eval o X.env := by rfl)
    (hfew : ((backTo cpos (starEach (e :: es) X.env)).all (fun x => !x.1) && (backToKw cpos (keywordEach [] X.env)).all (fun x => x.1.isSome)
      && decide ((e :: es).length + ([] : List Keyword).length + (if ([] : List Keyword).isEmpty then 0 else 1) < 30)) = true := by rfl)
    (hline : (apos.endLine == cpos.line) = true := by rfl) (hs : starEach (e :: es) X.env = (false, eval e X.env) :: starEach es X.env := by rfl) (hplain : (backTo cpos (starEach es X.env)).any (·.1) = false := by rfl) :
    VE X Γ Γ1 W (.Call (.Attribute o name apos) (e :: es) [] cpos) .fz (eMth i f as) :=
  peImp (pe_bm PySem.F.plainAttrs_list slot hty hr ho ha hbase hfew hline hs hplain) fun σ H Q ⟨ρ, F, r0, q⟩ => by
    obtain ⟨d0, e2, q⟩ := gv_sat (Res.sat_bind.mp q)
    by_cases hl : isLst d0 = true
    · rw [if_pos hl] at q
      cases d0 <;> first | (cases hl; done) | skip
      obtain ⟨v, h1, h2⟩ := r0.rdd e2
      obtain ⟨p, ws, rfl, h3, h4⟩ := h2.lst
      refine ⟨_, h1, .inl ⟨rfl, ws, .of h3⟩, ρ, F, r0, Res.sat_imp (Res.sat_bind.mp q) (fun z _ q vs H1 F1 ee r1 b1 => ?_) fun _ h => h⟩
      obtain ⟨ds, hds, q⟩ := fins_sat q
      obtain ⟨d, hd, q⟩ := gv_sat (Res.sat_bind.mp q)
      cases d <;> first | exact q.elim | skip
      rename_i l
      obtain ⟨u, hu, q⟩ := opt_sat (Res.sat_bind.mp q)
      obtain ⟨v2, k1, k2⟩ := r1.rdd hd
      rw [h1] at k1; cases k1
      refine hf H1 F1 _ l vs ds u Q r1.sub k2 ((b1.fin r1 hds).rdds r1.sub) hu fun w hc hw => ?_
      exact q w H1 F1 ee r1 hw
    · rw [if_neg hl] at q; exact q.elim
/-- the first place of an equal one -/
def idxD (x : D) : List D → Nat → Option Nat
  | [], _ => none
  | y :: ys, k => if eqD y x = true then some k else idxD x ys (k + 1)
def mIndex : List D → List D → Option D
  | l, [x] => if flatD x = true ∧ l.all flatD = true then (idxD x l 0).map fun k : Nat => .int (k : Int) else none
  | _, _ => none
theorem idxD_spec {x : D} : ∀ {l : List D} {k j : Nat}, idxD x l k = some j → ∃ n, j = k + n ∧ (∃ y, l[n]? = some y ∧ eqD y x = true) ∧ ∀ m y, m < n → l[m]? = some y → eqD y x = false
  | [], _, _, h => by cases h
  | y :: ys, k, j, h => by
    unfold idxD at h
    split at h
    · rename_i he
      cases h
      exact ⟨0, rfl, ⟨y, rfl, he⟩, fun m y hm => by omega⟩
    · rename_i he
      obtain ⟨n, rfl, ⟨z, h1, h2⟩, h3⟩ := idxD_spec h
      refine ⟨n + 1, by omega, ⟨z, by simpa using h1, h2⟩, fun m w hm hw => ?_⟩
      cases m with
      | zero => simp at hw; subst hw; simpa using he
      | succ m => exact h3 m w (by omega) (by simpa using hw)
theorem m_index {K : PySem.W.Frag} {mg : Str → Option Value} : MthF K mg mIndex (rIndex K) := by
  intro H F v l vs ds u Q s rl rd hf q
  unfold mIndex at hf
  split at hf
  · rename_i x
    split at hf
    · rename_i hfl
      cases hi : idxD x l 0 with
      | none => rw [hi] at hf; cases hf
      | some k =>
        rw [hi] at hf; cases hf
        obtain ⟨n, e, ⟨y, h1, h2⟩, h3⟩ := idxD_spec hi
        have e : k = n := by omega
        subst e
        obtain ⟨vx, w, rfl, hx, rfl⟩ := rd
        obtain ⟨p, ws, rfl, hp, hws⟩ := rl.lst
        have hcx : cellD x = false := by cases x <;> first | (cases hfl.1; done) | rfl
        have rx := hx.of_rep hcx
        obtain ⟨vy, k1, k2⟩ := reps_get hws h1
        have fl := fun (m : Nat) (y : D) (h : l[m]? = some y) => List.all_eq_true.mp hfl.2 y (List.mem_of_getElem? h)
        refine ⟨p, ws, vx, k, vy, rfl, rfl, .of hp, flat_rdd hfl.1 rx, (flat_any hfl.1 rx hfl.2 hws).2, k1, ?_, fun m z' hm hz => ?_, q _ rfl rfl⟩
        · rw [flat_eq hfl.1 (fl k y h1) rx k2]; exact h2
        · have hml : m < l.length := by
            have := (List.getElem?_eq_some_iff.mp hz).1
            rw [reps_length hws] at this; exact this
          obtain ⟨vm, q1, q2⟩ := reps_get hws (List.getElem?_eq_getElem hml)
          rw [hz] at q1; cases q1
          rw [flat_eq hfl.1 (fl m _ (List.getElem?_eq_getElem hml)) rx q2]
          exact h3 m _ hm (List.getElem?_eq_getElem hml)
    · cases hf
  · cases hf
end
end VL

set_option Elab.async false
set_option linter.all false
set_option maxRecDepth 100000
/-! VL23: sorted of data of any kind. -/
namespace VL
open PySem PySem.Spec PyProof.Rows L2 PySem.W
section
variable {X : Cx} {K : PySem.W.Frag} {mg : Str → Option Value}
def rSortD (K : PySem.W.Frag) : List V → Hp → VK → Prop := fun vs H Q => ∃ (a : Addr) (bs : List (V × PyData)), vs = [V.ref a] ∧ SqL K H a (bs.map (·.1)) ∧ (∀ b ∈ bs, Dp K H b.1 b.2) ∧ AllAlike (bs.map (·.2)) ∧ PySem.W.Sortable (bs.map (·.2)) ∧ (∀ b ∈ bs, b.2.depth ≤ 60) ∧
  ∀ p : Addr, H p = none → Q (.ref p) (upd H p (.lst ((bs.mergeSort (dataLe false (·.2))).map (·.1))))
theorem vals_each : ∀ {bs : List (V × PyData)} {us : List Value}, Vals (bs.map (·.1)) us → EachIs (fun (u : Value) (b : V × PyData) => RelV b.1 u) us bs
  | [], _, h => by cases h; exact .nil
  | b :: bs, _, h => by
    cases h with
    | cons h1 h2 => exact .cons h1 (vals_each h2)
theorem each_vals : ∀ {bs : List (V × PyData)} {us : List Value}, EachIs (fun (u : Value) (b : V × PyData) => RelV b.1 u) us bs → Vals (bs.map (·.1)) us
  | _, _, .nil => .nil
  | _, _, .cons h1 h2 => .cons h1 (each_vals h2)
theorem each_reads {pins : List (Addr × Obj)} {σ : St} {H : Hp} {s : Shared} (I : Inv X pins σ H s) : ∀ {bs : List (V × PyData)} {us : List Value}, EachIs (fun (u : Value) (b : V × PyData) => RelV b.1 u) us bs → (∀ b ∈ bs, Dp X.K H b.1 b.2) → EachIs (fun (u : Value) (b : V × PyData) => ∃ as, Reads s.heap u b.2 as) us bs
  | _, _, .nil, _ => .nil
  | _, _, .cons h1 h2, h => .cons (Dp.reads I _ _ _ (h _ List.mem_cons_self) h1) (each_reads I h2 fun b hb => h b (List.mem_cons_of_mem _ hb))
theorem cr_sortD (hu : X.A.units + 64 < cLine) : CallR X (.builtin "sorted") (rSortD X.K) := by
  intro pins s σ H vs us Q I r h
  obtain ⟨a, bs, rfl, hs, hd, hal, hk, hdp, q⟩ := h
  obtain ⟨its, rv, hl, hz⟩ := I.list hs
  rw [Vals.ref1 r]
  have e := vals_each rv
  refine PySem.W.sorted_data (R := fun (u : Value) (b : V × PyData) => RelV b.1 u) (enc := fun b : V × PyData => b.2) hl.isList e (each_reads I e hd) hal hk (by rw [List.length_map] at hz; exact hz) (fun b hb => by have := hdp b hb; omega) fun out ho h2 => ?_
  obtain ⟨ep, he'⟩ := PyProof.Rows.sortedAll_at s.heap its out.toArray
  refine ⟨.ref _, upd H (s.heap.objs.size + 1) (.lst ((bs.mergeSort (dataLe false (·.2))).map (·.1))), I.laid (t' := s.toks) (fun _ _ => PyProof.Rows.sortedAll_old) (Nat.le_succ _) ⟨?_, out, ep, each_vals h2, he'⟩, rfl, q _ (I.hok.fresh (Nat.le_succ _))⟩
  rw [List.length_map, List.length_mergeSort]
  rw [List.length_map] at hz
  exact hz
/-! ### by data -/
def leD (a b : D) : Bool := dataLe false pyd a b
def alikeD (l : List D) : Bool := l.all fun a => l.all fun b => alike (pyd a) (pyd b)
def tupD : D → Bool
  | .tup (_ :: _) => true
  | _ => false
def nTupD : D → Bool
  | .bl _ => true
  | .int _ => true
  | .str _ => true
  | .lst _ => true
  | _ => false
def okSort (l : List D) : Bool := goodDs 59 l && alikeD l && (l.all tupD || l.all nTupD)
def fSortD : List D → Option D
  | [.lst l] => if okSort l = true then some (.lst (l.mergeSort leD)) else none
  | _ => none
theorem pyds_map : ∀ l : List D, pyds l = l.map pyd
  | [] => rfl
  | d :: l => by rw [pyds, List.map_cons, pyds_map l]
theorem reps_zip {F : Hp} : ∀ {l : List D} {vs : List V}, reps K mg F l vs → ∀ z ∈ l.zip vs, rep K mg F z.1 z.2
  | [], _, h, z, hz => by simp at hz
  | d :: l, _, h, z, hz => by
    simp only [reps] at h
    obtain ⟨v, w, rfl, h1, h2⟩ := h
    rcases List.mem_cons.mp hz with rfl | hz
    · exact h1
    · exact reps_zip h2 z hz
theorem zip_reps {F : Hp} : ∀ {zs : List (D × V)}, (∀ z ∈ zs, rep K mg F z.1 z.2) → reps K mg F (zs.map Prod.fst) (zs.map Prod.snd)
  | [], _ => by simp only [List.map_nil, reps]
  | z :: zs, h => reps_cons (h z List.mem_cons_self) (zip_reps fun y hy => h y (List.mem_cons_of_mem _ hy))
theorem goodDs_mem {n : Nat} : ∀ {l : List D} {d : D}, goodDs n l = true → d ∈ l → goodD n d = true
  | [], _, _, h => by simp at h
  | x :: l, d, h, hd => by
    simp only [goodDs, Bool.and_eq_true] at h
    rcases List.mem_cons.mp hd with rfl | hd
    · exact h.1
    · exact goodDs_mem h.2 hd
theorem c_sortD : CallF K mg fSortD (rSortD K) .own := by
  intro H F vs ds d Q s r hf q
  unfold fSortD at hf
  split at hf
  · rename_i l
    split at hf <;> cases hf
    rename_i hok
    unfold okSort at hok
    simp only [Bool.and_eq_true] at hok
    obtain ⟨⟨hg, ha⟩, hs⟩ := hok
    obtain ⟨v, w, rfl, h1, rfl⟩ := r
    obtain ⟨p, ws, rfl, h2, h3⟩ := h1.lst
    have hlen := reps_length h3
    have hz := reps_zip h3
    have zl : ∀ z ∈ l.zip ws, z.1 ∈ l := fun z hz => (List.of_mem_zip (a := z.1) (b := z.2) hz).1
    have e1 : ((l.zip ws).map fun z => (z.2, pyd z.1)).map (·.1) = ws := by
      rw [List.map_map]
      show (l.zip ws).map Prod.snd = ws
      rw [List.map_snd_zip (by omega)]
    have e2 : ((l.zip ws).map fun z => (z.2, pyd z.1)).map (·.2) = l.map pyd := by
      rw [List.map_map]
      have : ((fun b : V × PyData => b.2) ∘ fun z : D × V => (z.2, pyd z.1)) = pyd ∘ Prod.fst := rfl
      rw [this, ← List.map_map, List.map_fst_zip (by omega)]
    have e3 : AllAlike (l.map pyd) := by
      intro a ha' b hb'
      obtain ⟨x, hx, rfl⟩ := List.mem_map.mp ha'
      obtain ⟨y, hy, rfl⟩ := List.mem_map.mp hb'
      exact List.all_eq_true.mp (List.all_eq_true.mp ha x hx) y hy
    have e4 : PySem.W.Sortable (l.map pyd) := by
      rcases Bool.or_eq_true _ _ |>.mp hs with hs | hs
      · left
        intro a ha'
        obtain ⟨x, hx, rfl⟩ := List.mem_map.mp ha'
        have := List.all_eq_true.mp hs x hx
        cases x <;> first | (cases this; done) | skip
        rename_i t
        cases t with
        | nil => cases this
        | cons y t => exact ⟨pyd y, pyds t, by simp only [pyd, pyds]⟩
      · right
        intro a ha'
        obtain ⟨x, hx, rfl⟩ := List.mem_map.mp ha'
        have := List.all_eq_true.mp hs x hx
        cases x <;> first | (cases this; done) | (refine ⟨by simp [pyd], fun xs => by simp [pyd]⟩)
    refine ⟨p, (l.zip ws).map fun z => (z.2, pyd z.1), rfl, by rw [e1]; exact .of h2, fun b hb => ?_, by rw [e2]; exact e3, by rw [e2]; exact e4, fun b hb => ?_, fun n hn => ?_⟩
    · obtain ⟨z, hz1, rfl⟩ := List.mem_map.mp hb
      exact rep_dp s z.1 59 z.2 (goodDs_mem hg (zl z hz1)) (hz z hz1)
    · obtain ⟨z, hz1, rfl⟩ := List.mem_map.mp hb
      have := (good_lay z.1 59 (goodDs_mem hg (zl z hz1))).2
      show (pyd z.1).depth ≤ 60
      omega
    · have m1 : ((l.zip ws).mergeSort (fun z y => leD z.1 y.1)).map Prod.fst = l.mergeSort leD := by
        rw [PySem.W.sort_maps (s := leD) Prod.fst (fun _ _ _ _ => rfl), List.map_fst_zip (by omega)]
      have m2 : (((l.zip ws).map fun z => (z.2, pyd z.1)).mergeSort (dataLe false (·.2))).map (·.1) = ((l.zip ws).mergeSort (fun z y => leD z.1 y.1)).map Prod.snd := by
        rw [← PySem.W.sort_maps (r := fun z y => leD z.1 y.1) (s := dataLe false (·.2)) (fun z : D × V => (z.2, pyd z.1)) (fun _ _ _ _ => rfl), List.map_map]
        rfl
      rw [m2]
      rw [← m1] at q
      have rr := zip_reps (K := K) (mg := mg) (F := F) (zs := (l.zip ws).mergeSort (fun z y => leD z.1 y.1)) fun z hz' => hz z (List.mem_mergeSort.mp hz')
      exact q _ _ F (Grow.newO s hn) (.newL hn s rr)
  · cases hf
/-- whole numbers as before; else any data -/
def fSortedA (ds : List D) : Option D := match fSorted ds with
  | some d => some d
  | none => fSortD ds
theorem c_sortedA : CallF K mg fSortedA (fun vs H Q => rSortedI K vs H Q ∨ rSortD K vs H Q) .own := by
  intro H F vs ds d Q s r hf q
  unfold fSortedA at hf
  cases h : fSorted ds with
  | some d' => rw [h] at hf; cases hf; exact .inl (c_sorted H F vs ds d Q s r h q)
  | none => rw [h] at hf; exact .inr (c_sortD H F vs ds d Q s r hf q)
theorem cr_sortedA (hu : X.A.units + 64 < cLine) : CallR X (.builtin "sorted") (fun vs H Q => rSortedI X.K vs H Q ∨ rSortD X.K vs H Q) := cr_sortedI.or (cr_sortD hu)
end
end VL

set_option Elab.async false
set_option linter.all false
set_option maxRecDepth 100000
/-! VL24: >= of tuples of whole numbers. -/
namespace VL
open PySem PySem.Spec PyProof.Rows L2
def rGeT (K : PySem.W.Frag) : R2 := fun x y H Q => ∃ a b ns ms, x = V.ref a ∧ y = V.ref b ∧ SqT K H a (List.map V.int ns) ∧ SqT K H b (List.map V.int ms) ∧
  Q (.bl (Ob.lexAt (fun j => decide (ns.getD j 0 = ms.getD j 0)) (fun j => decide (ms.getD j 0 ≤ ns.getD j 0)) (decide (ns.length ≥ ms.length)) 0 (min ns.length ms.length))) H
theorem vals_ints : ∀ {ns : List Int} {its : List Value}, Vals (ns.map V.int) its → its.length = ns.length ∧ ∀ (j : Nat) (hj : j < its.length), ∃ t, its[j] = .int (ns.getD j 0) t
  | [], _, h => by cases h; exact ⟨rfl, fun j hj => by simp at hj⟩
  | n :: ns, _, h => by
    cases h with
    | cons h1 h2 =>
      obtain ⟨l, g⟩ := vals_ints h2
      refine ⟨by simp [l], fun j hj => ?_⟩
      cases j with
      | zero => obtain ⟨t, e⟩ := h1; exact ⟨t, by simpa using e⟩
      | succ j => obtain ⟨t, e⟩ := g j (by simpa using hj); exact ⟨t, by simpa using e⟩
theorem op_geT {X : Cx} (hu : X.A.units < cLine) : OpR X (compareOp .GtE) (rGeT X.K) := by
  intro pins s σ H x y v u Q I rx ry h
  obtain ⟨a, b, ns, ms, rfl, rfl, ha, hb, q⟩ := h
  obtain ⟨ia, va, ta, la⟩ := I.tuple ha
  obtain ⟨ib, vb, tb, lb⟩ := I.tuple hb
  have rx : v = .ref a := rx
  have ry : u = .ref b := ry
  subst rx ry
  obtain ⟨l1, g1⟩ := vals_ints va
  obtain ⟨l2, g2⟩ := vals_ints vb
  have key : Ob.RcOp .GtE X.A s (.ref a) (.ref b) _ := Ob.RcOp.tuples_ge (e := fun j => decide (ns.getD j 0 = ms.getD j 0)) (r := fun j => decide (ms.getD j 0 ≤ ns.getD j 0)) (items := ia.toArray) (items2 := ib.toArray) ta tb hu (fun j h1 h2 => by
    obtain ⟨t, e1⟩ := g1 j (by simpa using h1)
    obtain ⟨t', e2⟩ := g2 j (by simpa using h2)
    intro prog w E Q q
    simp only [List.getElem_toArray, e1, e2]
    exact PySem.wpAny_eqBool_int (by rw [show (ns.getD j 0 == ms.getD j 0) = decide (ns.getD j 0 = ms.getD j 0) by rw [Bool.eq_iff_iff]; simp]; exact q)) (fun j h1 h2 _ => by
    obtain ⟨t, e1⟩ := g1 j (by simpa using h1)
    obtain ⟨t', e2⟩ := g2 j (by simpa using h2)
    simp only [List.getElem_toArray, e1, e2]
    exact Ob.RcOp.ge_int _ _ _ _)
  have e : decide (ia.toArray.size ≥ ib.toArray.size) = decide (ns.length ≥ ms.length) := by simp [l1, l2]
  have e2 : min ia.toArray.size ib.toArray.size = min ns.length ms.length := by simp [l1, l2]
  rw [e, e2] at key
  exact key X.prog X.w X.xe _ ⟨.bl _, H, I, rfl, q⟩
theorem lexAt_shift {z : Bool} : ∀ {k i : Nat} {e r : Nat → Bool}, Ob.lexAt e r z (i + 1) k = Ob.lexAt (fun j => e (j + 1)) (fun j => r (j + 1)) z i k
  | 0, _, _, _ => rfl
  | k + 1, i, e, r => by rw [Ob.lexAt_succ, Ob.lexAt_succ, lexAt_shift]
theorem lexAt_lt : ∀ {ns ms : List Int}, Ob.lexAt (fun j => decide (ns.getD j 0 = ms.getD j 0)) (fun j => decide (ms.getD j 0 ≤ ns.getD j 0)) (decide (ns.length ≥ ms.length)) 0 (min ns.length ms.length) = !decide (ns < ms)
  | [], [] => by simp [Ob.lexAt_zero]
  | [], y :: ms => by simp [Ob.lexAt_zero]
  | x :: ns, [] => by simp [Ob.lexAt_zero]
  | x :: ns, y :: ms => by
    have h := @lexAt_lt ns ms
    rw [List.length_cons, List.length_cons, show min (ns.length + 1) (ms.length + 1) = min ns.length ms.length + 1 by omega, Ob.lexAt_succ, lexAt_shift]
    simp only [List.getD_cons_zero, List.getD_cons_succ]
    rw [show decide (ns.length + 1 ≥ ms.length + 1) = decide (ns.length ≥ ms.length) by rw [Bool.eq_iff_iff]; simp, h]
    rw [Bool.eq_iff_iff]
    simp only [decide_eq_true_eq, Bool.not_eq_true', decide_eq_false_iff_not, List.cons_lt_cons_iff]
    by_cases hxy : x = y
    · subst hxy; simp
    · simp only [hxy, if_false, false_and, or_false, decide_eq_true_eq]; omega
def dGeX : D → D → Option D
  | .tup xs, .tup ys => (intsOf xs).bind fun ns => (intsOf ys).map fun ms => .bl (!decide (ns < ms))
  | .int i, .int j => some (.bl (decide (j ≤ i)))
  | .str a, .str b => some (.bl (!decide (a < b)))
  | _, _ => none
@[simp] theorem dGeX_int {i j : Int} : dGeX (.int i) (.int j) = some (.bl (decide (j ≤ i))) := rfl
def rGeX (K : PySem.W.Frag) : R2 := fun x y H Q => (rI0 (fun i j => .bl (decide (j ≤ i))) x y H Q ∨ ∃ i j, x = .str i ∧ y = .str j ∧ Q (.bl (!decide (i.cps.toList < j.cps.toList))) H) ∨ rGeT K x y H Q
section
variable {X : Cx} {K : PySem.W.Frag} {mg : Str → Option Value}
theorem op_geX (hu : X.A.units < cLine) : OpR X (compareOp .GtE) (rGeX X.K) := op_geA.or (op_geT hu)
theorem f_geX : OpF K mg dGeX (rGeX K) .fz := by
  intro H F v w a b d Q s ra rb hf q
  unfold dGeX at hf
  split at hf
  · rename_i x y
    cases hx : intsOf x with
    | none => rw [hx] at hf; cases hf
    | some ns =>
      cases hy : intsOf y with
      | none => rw [hx, hy] at hf; cases hf
      | some ms =>
        rw [hx, hy] at hf; cases hf
        have e1 := intsOf_ok hx
        have e2 := intsOf_ok hy
        subst e1 e2
        obtain ⟨p, vs, rfl, h1, h2⟩ := ra.tup
        obtain ⟨p', vs', rfl, h1', h2'⟩ := rb.tup
        rw [reps_ints h2] at h1
        rw [reps_ints h2'] at h1'
        exact .inr ⟨p, p', ns, ms, rfl, rfl, Same.sqT s h1, Same.sqT s h1', by rw [lexAt_lt]; exact q _ H F (Grow.refl s) (.atom rfl rfl)⟩
  · cases hf
    exact .inl (.inl ⟨_, _, ra.int, rb.int, q _ H F (Grow.refl s) (.atom rfl rfl)⟩)
  · cases hf
    exact .inl (.inr ⟨_, _, ra.str, rb.str, q _ H F (Grow.refl s) (.atom rfl rfl)⟩)
  · cases hf
end
end VL

set_option Elab.async false
set_option linter.all false
set_option maxRecDepth 100000
/-! VL26: dicts with keys ints and texts. -/
namespace VL
open PySem PySem.Spec PyProof.Rows L2
def keyB (a b : D) : Bool := match toKey a with
  | some k => decide (toKey b = some k)
  | none => false
def lookD (kvs : List (D × D)) (k : D) : Option D := (kvs.find? fun p => keyB k p.1).map (·.2)
def hasD (kvs : List (D × D)) (k : D) : Bool := kvs.any fun p => keyB k p.1
def putD (kvs : List (D × D)) (k v : D) : List (D × D) := if hasD kvs k = true then kvs.map (fun p => if keyB k p.1 = true then (p.1, v) else p) else kvs ++ [(k, v)]
def isKey (d : D) : Bool := (toKey d).isSome
def kvsD : D → Option (List (D × D))
  | .dct l => some l
  | .lck l => some l
  | _ => none
section
variable {K : PySem.W.Frag} {mg : Str → Option Value} {F F' H H' : Hp} {kvs l : List (D × D)} {xs : List (Key × V)} {k d : D} {key : Key} {v y : V}
theorem key_rep (h : toKey d = some key) (r : Rdd K mg H F v d) : v = kV key := by
  cases d <;> simp only [toKey] at h <;> first | (cases h; done) | skip
  · cases h; exact r.int
  · cases h; exact r.str
theorem rep_key (h : toKey d = some key) : rep K mg F d (kV key) := by
  cases d <;> simp only [toKey] at h <;> first | (cases h; done) | skip
  · cases h; simp only [rep]; rfl
  · cases h; simp only [rep]; rfl
theorem keyB_eq (hk : toKey k = some key) {d : D} {k' : Key} (h : toKey d = some k') : keyB k d = decide (k' = key) := by
  unfold keyB; rw [hk, h]
  show decide (some k' = some key) = decide (k' = key)
  rw [Bool.eq_iff_iff]; simp
theorem repsK_look (hk : toKey k = some key) : ∀ {kvs : List (D × D)} {xs : List (Key × V)}, repsK K mg F kvs xs → (lookD kvs k).isSome = (valV xs key).isSome ∧ hasD kvs k = (xs.any fun kv => decide (kv.1 = key)) ∧ ∀ d, lookD kvs k = some d → ∃ v, valV xs key = some v ∧ rep K mg F d v
  | [], _, h => by simp only [repsK] at h; subst h; exact ⟨rfl, rfl, fun d h => by cases h⟩
  | p :: kvs, _, h => by
    simp only [repsK] at h
    obtain ⟨k', v, r, rfl, h1, h2, h3⟩ := h
    obtain ⟨i1, i2, i3⟩ := repsK_look hk h3
    have e := keyB_eq hk h1
    unfold lookD hasD
    rw [List.find?_cons, List.any_cons, e]
    by_cases hh : k' = key
    · rw [valV_pos hh, decide_eq_true hh]
      exact ⟨rfl, by simp [hh], fun d hd => by cases hd; exact ⟨v, rfl, h2⟩⟩
    · rw [valV_neg hh, decide_eq_false hh]
      exact ⟨i1, by simp only [Bool.false_or, List.any_cons, decide_eq_false hh]; exact i2, i3⟩
theorem repsK_map (hk : toKey k = some key) (rv : rep K mg F d v) : ∀ {kvs : List (D × D)} {xs : List (Key × V)}, repsK K mg F kvs xs → repsK K mg F (kvs.map fun p => if keyB k p.1 = true then (p.1, d) else p) (xs.map fun kv => if kv.1 = key then (kv.1, v) else kv)
  | [], _, h => by simp only [repsK] at h; subst h; simp only [List.map_nil, repsK]
  | p :: kvs, _, h => by
    simp only [repsK] at h
    obtain ⟨k', w, r, rfl, h1, h2, h3⟩ := h
    have e := keyB_eq hk h1
    simp only [List.map_cons, repsK]
    by_cases hh : k' = key
    · simp only [e, hh, decide_true, if_true]
      exact ⟨key, v, _, rfl, by rw [← hh]; exact h1, rv, repsK_map hk rv h3⟩
    · simp only [e, hh, decide_false, if_false, Bool.false_eq_true]
      exact ⟨k', w, _, rfl, h1, h2, repsK_map hk rv h3⟩
theorem repsK_snoc (hk : toKey k = some key) (rv : rep K mg F d v) : ∀ {kvs : List (D × D)} {xs : List (Key × V)}, repsK K mg F kvs xs → repsK K mg F (kvs ++ [(k, d)]) (xs ++ [(key, v)])
  | [], _, h => by
    simp only [repsK] at h; subst h
    simp only [List.nil_append, repsK]
    exact ⟨key, v, [], rfl, hk, rv, rfl⟩
  | p :: kvs, _, h => by
    simp only [repsK] at h
    obtain ⟨k', w, r, rfl, h1, h2, h3⟩ := h
    simp only [List.cons_append, repsK]
    exact ⟨k', w, _, rfl, h1, h2, repsK_snoc hk rv h3⟩
theorem repsK_put (hk : toKey k = some key) (rv : rep K mg F d v) (h : repsK K mg F kvs xs) : repsK K mg F (putD kvs k d) (putK xs key v) := by
  have e := (repsK_look hk h).2.1
  unfold putD putK
  rw [e]
  split
  · exact repsK_map hk rv h
  · exact repsK_snoc hk rv h
theorem repsK_length : ∀ {kvs : List (D × D)} {xs : List (Key × V)}, repsK K mg F kvs xs → xs.length = kvs.length
  | [], _, h => by simp only [repsK] at h; subst h; rfl
  | p :: kvs, _, h => by
    simp only [repsK] at h
    obtain ⟨k', w, r, rfl, h1, h2, h3⟩ := h
    rw [List.length_cons, List.length_cons, repsK_length h3]
theorem repsK_get : ∀ {kvs : List (D × D)} {xs : List (Key × V)} {i : Nat} {k : Key} {v : V}, repsK K mg F kvs xs → xs[i]? = some (k, v) → ∃ p, kvs[i]? = some p ∧ toKey p.1 = some k ∧ rep K mg F p.2 v
  | [], _, i, _, _, h, e => by simp only [repsK] at h; subst h; cases e
  | p :: kvs, _, i, k, v, h, e => by
    simp only [repsK] at h
    obtain ⟨k', w, r, rfl, h1, h2, h3⟩ := h
    cases i with
    | zero => cases e; exact ⟨p, rfl, h1, h2⟩
    | succ i =>
      obtain ⟨q, g1, g2⟩ := repsK_get h3 (by simpa using e)
      exact ⟨q, by simpa using g1, g2⟩
theorem Rdd.kvsR (s : Same F H) (r : Rdd K mg H F v d) (h : kvsD d = some l) : ∃ p xs, v = .ref p ∧ L2.Rd H p (.dK xs) ∧ repsK K mg F l xs := by
  cases d <;> simp only [kvsD] at h <;> first | (cases h; done) | skip
  · cases h
    unfold Rdd at r
    rw [if_pos (show cellD (.dct _) = true from rfl)] at r
    obtain ⟨p, o, e, h1, xs, rfl, h2⟩ := r
    exact ⟨p, xs, e, .inl h1, h2⟩
  · cases h
    have r := Rdd.of_rep rfl r
    simp only [rep] at r
    obtain ⟨p, z, xs, e, h1, h2⟩ := r
    exact ⟨p, xs, e, .inr ⟨z, s _ _ h1⟩, h2⟩
end
/-! ### d[k] -/
def rIxD : R2 := fun x y H Q => ∃ a v, x = .ref a ∧ DGet H a y (some v) ∧ Q v H
def rIxK (K : PySem.W.Frag) : R2 := fun x y H Q => rIx K x y H Q ∨ rIxD x y H Q
def dIxK (a b : D) : Option D := match kvsD a with
  | some l => if isKey b = true then lookD l b else none
  | none => dIx a b
section
variable {X : Cx} {K : PySem.W.Frag} {mg : Str → Option Value}
theorem ix_dict (hu : X.A.units + 1 < cLine) : IxR X rIxD := by
  intro value slice pins s σ H x y v u Q I rx ry h hs
  obtain ⟨a, z, rfl, g, q⟩ := h
  have rx : v = Value.ref a := rx
  subst rx
  have hT := dict_typeIs I g
  unfold subscriptTail
  refine wpAny_bind ?_
  rw [getitemInPython_of_ne hT.not_modules]
  refine wpAny_bind (wpAny_specialOf hT PySem.F.slot_dict_getitem.lookup ?_)
  have fin : wpAny (model X.prog X.w) X.A (subscripted slice false (.ref a) u) (fun r s₃ => wpAny (model X.prog X.w) X.A (letTemporaryGo value (.ref a) r >>= fun _ => pure r) (EP X pins σ Q) X.xe s₃) X.xe s := by
    rw [hs]
    exact wpAny_operating (d_getItem hu I g ry fun w' s3 I3 rw' => wpAny_bind (wpAny_letTemporaryGo (wpAny_pure ⟨z, H, I3, rw', q⟩)))
  first
    | exact wpAny_pure (wpAny_bind fin)
    | exact wpAny_bind (wpAny_pure (wpAny_bind fin))
    | exact wpAny_bind fin
theorem ix_K (hu : X.A.units + 1 < cLine) : IxR X (rIxK X.K) := ix_seq.or (ix_dict hu)
theorem f_ixK : OpF K mg dIxK (rIxK K) .fz := by
  intro H F v w a b d Q s ra rb hf q
  unfold dIxK at hf
  cases hk : kvsD a with
  | none => rw [hk] at hf; exact .inl (f_ix H F v w a b d Q s ra rb hf q)
  | some l =>
    rw [hk] at hf
    dsimp only at hf
    split at hf <;> first | (cases hf; done) | skip
    rename_i hb
    obtain ⟨p, xs, rfl, h1, h2⟩ := ra.kvsR s hk
    obtain ⟨key, hkey⟩ : ∃ key, toKey b = some key := Option.isSome_iff_exists.mp hb
    obtain ⟨_, _, i3⟩ := repsK_look hkey h2
    obtain ⟨z, z1, z2⟩ := i3 d hf
    exact .inr ⟨p, z, rfl, .inl ⟨xs, key, h1, key_rep hkey rb, z1.symm⟩, q _ H F (Grow.refl s) z2⟩
/-! ### k in d -/
def rInDct (neg : Bool) : R2 := fun x y H Q => ∃ a o, y = .ref a ∧ DGet H a x o ∧ Q (.bl (if neg = true then !o.isSome else o.isSome)) H
def rInK (K : PySem.W.Frag) : R2 := fun x y H Q => rInA K x y H Q ∨ rInDct false x y H Q
def rNotInK (K : PySem.W.Frag) : R2 := fun x y H Q => rNotInA K x y H Q ∨ rInDct true x y H Q
def dInK (a b : D) : Option D := match kvsD b with
  | some l => if isKey a = true then some (.bl (lookD l a).isSome) else none
  | none => dIn a b
def dNotInK (a b : D) : Option D := match kvsD b with
  | some l => if isKey a = true then some (.bl (!(lookD l a).isSome)) else none
  | none => dNotIn a b
theorem op_inDct (hu : X.A.units + 1 < cLine) : OpR X (compareOp .In) (rInDct false) := by
  intro pins s σ H x y v u Q I rx ry h
  obtain ⟨a, o, rfl, g, q⟩ := h
  have ry : u = Value.ref a := ry
  subst ry
  exact d_in hu I g rx fun s3 I3 => ⟨.bl o.isSome, H, I3, rfl, q⟩
theorem op_notInDct (hu : X.A.units + 1 < cLine) : OpR X (compareOp .NotIn) (rInDct true) := by
  intro pins s σ H x y v u Q I rx ry h
  obtain ⟨a, o, rfl, g, q⟩ := h
  have ry : u = Value.ref a := ry
  subst ry
  exact d_notIn hu I g rx fun s3 I3 => ⟨.bl (!o.isSome), H, I3, rfl, q⟩
theorem op_inK (hu : X.A.units + 65 < cLine) : OpR X (compareOp .In) (rInK X.K) := (op_inA hu).or (op_inDct (by omega))
theorem op_notInK (hu : X.A.units + 65 < cLine) : OpR X (compareOp .NotIn) (rNotInK X.K) := (op_notInA hu).or (op_notInDct (by omega))
theorem f_inK : OpF K mg dInK (rInK K) .fz := by
  intro H F v w a b d Q s ra rb hf q
  unfold dInK at hf
  cases hk : kvsD b with
  | none => rw [hk] at hf; exact .inl (f_in H F v w a b d Q s ra rb hf q)
  | some l =>
    rw [hk] at hf
    dsimp only at hf
    split at hf <;> cases hf
    rename_i hb
    obtain ⟨p, xs, rfl, h1, h2⟩ := rb.kvsR s hk
    obtain ⟨key, hkey⟩ : ∃ key, toKey a = some key := Option.isSome_iff_exists.mp hb
    obtain ⟨i1, _, _⟩ := repsK_look hkey h2
    exact .inr ⟨p, _, rfl, .inl ⟨xs, key, h1, key_rep hkey ra, rfl⟩, by rw [← i1]; exact q _ H F (Grow.refl s) (.atom rfl rfl)⟩
theorem f_notInK : OpF K mg dNotInK (rNotInK K) .fz := by
  intro H F v w a b d Q s ra rb hf q
  unfold dNotInK at hf
  cases hk : kvsD b with
  | none => rw [hk] at hf; exact .inl (f_notIn H F v w a b d Q s ra rb hf q)
  | some l =>
    rw [hk] at hf
    dsimp only at hf
    split at hf <;> cases hf
    rename_i hb
    obtain ⟨p, xs, rfl, h1, h2⟩ := rb.kvsR s hk
    obtain ⟨key, hkey⟩ : ∃ key, toKey a = some key := Option.isSome_iff_exists.mp hb
    obtain ⟨i1, _, _⟩ := repsK_look hkey h2
    exact .inr ⟨p, _, rfl, .inl ⟨xs, key, h1, key_rep hkey ra, rfl⟩, by rw [← i1]; exact q _ H F (Grow.refl s) (.atom rfl rfl)⟩
/-! ### len(d), sorted(d) -/
def fLenK : List D → Option D
  | [d] => match kvsD d with
    | some l => some (.int l.length)
    | none => fLen [d]
  | ds => fLen ds
abbrev rLenA (K : PySem.W.Frag) : List V → Hp → VK → Prop := fun xs H Q => (∃ p ys, xs = [.ref p] ∧ (SqL K H p ys ∨ SqT K H p ys) ∧ Q (.int ys.length) H) ∨ ∃ z, xs = [.str z] ∧ z.length ≤ sizeLine ∧ Q (.int z.length) H
abbrev rLenD : List V → Hp → VK → Prop := fun xs H Q => ∃ a kvs, xs = [V.ref a] ∧ L2.Rd H a (.dK kvs) ∧ Q (.int kvs.length) H
theorem call_lenRd : CallR X (.builtin "len") rLenD := by
  intro pins s σ H xs us Q I r q
  obtain ⟨a, kvs, ex, hd, q⟩ := q
  subst ex
  obtain ⟨u, eu, rx⟩ := vals1 r
  subst eu
  have rx : u = Value.ref a := rx
  subst rx
  exact d_len I hd fun t s' I' => ⟨.int kvs.length, H, I', ⟨t, rfl⟩, q⟩
theorem b_lenK : CallR X (.builtin "len") (fun xs H Q => rLenA X.K xs H Q ∨ rLenD xs H Q) := b_len.or call_lenRd
theorem c_lenK : CallF K mg fLenK (fun xs H Q => rLenA K xs H Q ∨ rLenD xs H Q) .fz := by
  intro H F vs ds d Q s r hf q
  unfold fLenK at hf
  split at hf
  · rename_i d0
    cases hk : kvsD d0 with
    | none => rw [hk] at hf; exact .inl (c_len H F vs _ d Q s r hf q)
    | some l =>
      rw [hk] at hf; cases hf
      obtain ⟨v, w, rfl, h1, rfl⟩ := r
      obtain ⟨p, xs, rfl, h2, h3⟩ := h1.kvsR s hk
      exact .inr ⟨p, xs, rfl, h2, q _ H F (Grow.refl s) (.atom rfl (by simp only [rep, repsK_length h3]))⟩
  · exact .inl (c_len H F vs _ d Q s r hf q)
def rSortedK : List V → Hp → VK → Prop := fun xs H Q => ∃ (a : Addr) (kvs : List (Key × V)) (ks : List Int), xs = [.ref a] ∧ L2.Rd H a (.dK kvs) ∧ kvs.map (·.1) = ks.map Sum.inl ∧ ks.length < 64 ∧
    ∀ (ys : List Int) (p : Addr), ys.Perm ks → ys.Pairwise (· ≤ ·) → H p = none → Q (.ref p) (upd H p (.lst (ys.map V.int)))
def fSortedK : List D → Option D
  | [d] => match kvsD d with
    | some l => (intsOf (l.map (·.1))).bind fun ks => if ks.length < 64 then some (.lst ((sortI ks).map .int)) else none
    | none => fSortedA [d]
  | ds => fSortedA ds
theorem repsK_ints : ∀ {kvs : List (D × D)} {xs : List (Key × V)} {ks : List Int}, repsK K mg F kvs xs → intsOf (kvs.map (·.1)) = some ks → xs.map (·.1) = ks.map Sum.inl
  | [], _, ks, h, e => by simp only [repsK] at h; subst h; cases e; rfl
  | p :: kvs, _, ks, h, e => by
    simp only [repsK] at h
    obtain ⟨k', w, r, rfl, h1, h2, h3⟩ := h
    obtain ⟨p1, p2⟩ := p
    cases p1 <;> simp only [List.map_cons, intsOf] at e <;> first | (cases e; done) | skip
    cases e2 : intsOf (kvs.map (·.1)) with
    | none => rw [e2] at e; cases e
    | some ks' =>
      rw [e2] at e; cases e
      cases h1
      rw [List.map_cons, List.map_cons, repsK_ints h3 e2]
theorem c_sortedK : CallF K mg fSortedK (fun vs H Q => (rSortedI K vs H Q ∨ rSortD K vs H Q) ∨ rSortedK vs H Q) .own := by
  intro H F vs ds d Q s r hf q
  unfold fSortedK at hf
  split at hf
  · rename_i d0
    cases hk : kvsD d0 with
    | none => rw [hk] at hf; exact .inl (c_sortedA H F vs _ d Q s r hf q)
    | some l =>
      rw [hk] at hf
      dsimp only at hf
      cases hn : intsOf (l.map (·.1)) with
      | none => rw [hn] at hf; cases hf
      | some ks =>
        rw [hn] at hf
        dsimp only [Option.bind_some] at hf
        split at hf <;> cases hf
        rename_i h64
        obtain ⟨v, w, rfl, h1, rfl⟩ := r
        obtain ⟨p, xs, rfl, h2, h3⟩ := h1.kvsR s hk
        refine .inr ⟨p, xs, ks, rfl, h2, repsK_ints h3 hn, h64, fun ns' n hp hs hn => ?_⟩
        have e : ns' = sortI ks := sorted_uniq (hp.trans (sortI_perm ks).symm) hs (sortI_sorted ks)
        subst e
        exact q _ _ F (Grow.newO s hn) (.newL hn s ints_reps)
  · exact .inl (c_sortedA H F vs _ d Q s r hf q)
theorem cr_sortedK (hu : X.A.units + 64 < cLine) (hc : X.calm = true) : CallR X (.builtin "sorted") (fun vs H Q => (rSortedI X.K vs H Q ∨ rSortD X.K vs H Q) ∨ rSortedK vs H Q) := (cr_sortedA hu).or (call_sortedDI hc)
end
end VL

set_option Elab.async false
set_option linter.all false
set_option maxRecDepth 100000
/-! VL27: dicts: stores, displays, the lock, walks over keys. -/
namespace VL
open PySem PySem.Spec PyProof.Rows L2
/-! ### d[k] = v -/
def rSetD : V → V → V → Hp → (Hp → Prop) → Prop := fun o i v H Q => ∃ a H', o = .ref a ∧ DPut H a i v H' ∧ Q H'
def rSetK : V → V → V → Hp → (Hp → Prop) → Prop := fun o i v H Q => rSetL o i v H Q ∨ rSetD o i v H Q
def sSetIxK (i : Nat) (fi fe : Ev) : Es := fun ρ => (fe ρ).bind fun r => (gv r.2 i).bind fun _ => (fi r.2).bind fun k => (gv k.2 i).bind fun d => match d with
  | .lst l => match k.1 with
    | .int n => match ixN l.length n with
      | some j => .ok (.next (k.2.set i (some (.lst (l.set j r.1)))))
      | none => .bad
    | _ => .bad
  | .dct l => if isKey k.1 = true ∧ l.length < 16777216 then .ok (.next (k.2.set i (some (.dct (putD l k.1 r.1))))) else .bad
  | _ => .bad
section
variable {X : Cx} {Γ Γ' Γ1 Γ2 Γ3 : Gm} {S : SC} {W : WE} {st : Stmt} {tg iter e k v : Expr} {pos : Pos} {m : Md} {ev fi fe fk fv : Ev} {eb : Es} {i : Nat}
theorem set_dict (hu : X.A.units + 1 < cLine) : PSet X rSetD := by
  intro pins s σ H o i v ov iv u Q I ro ri rv h
  obtain ⟨a, H', rfl, g, q⟩ := h
  have ro : ov = Value.ref a := ro
  subst ro
  exact d_setItem hu I g ri rv fun s' I' => ⟨H', I', q⟩
theorem set_K (hu : X.A.units + 1 < cLine) : PSet X rSetK := by
  intro pins s σ H o i v ov iv u Q I ro ri rv h
  rcases h with h | h
  · exact set_list pins s σ H o i v ov iv u Q I ro ri rv h
  · exact set_dict hu pins s σ H o i v ov iv u Q I ro ri rv h
theorem put_core {ρ : Env} {σ : St} {H F : Hp} {l : List (D × D)} {kd d : D} {y v w : V} {Q : Hp → Prop} (r : Rel X.K X.mg Γ ρ σ H F) (hm : Γ[i]? = some m) (hu : m.mut = true) (hd : ρ[i]? = some (some (.dct l))) (hk : isKey kd = true) (hl : l.length < 16777216)
    (ry : Rdd X.K X.mg H F y kd) (rd : rep X.K X.mg F d v) (hs : σ[i]? = some (some w)) (q : ∀ H', Rel X.K X.mg Γ (ρ.set i (some (.dct (putD l kd d)))) σ H' F → Evo (Own Γ ρ σ) H F (Own Γ (ρ.set i (some (.dct (putD l kd d)))) σ) H' F → Q H') : rSetD w y v H Q := by
  obtain ⟨p, ob, k1, k2, k3, k4⟩ := r.ownAt hm hu hd rfl
  rw [k1] at hs; cases hs
  obtain ⟨xs, rfl, k5⟩ := k3
  obtain ⟨key, hkey⟩ : ∃ key, toKey kd = some key := Option.isSome_iff_exists.mp hk
  obtain ⟨r2, e2⟩ := r.upd (d' := .dct (putD l kd d)) (o' := .dK (putK xs key v)) hm hu hd rfl k1 k2 k4 rfl ⟨_, rfl, repsK_put hkey rd k5⟩
  exact ⟨p, _, rfl, .inl ⟨xs, key, k2, key_rep hkey ry, by rw [sizeLine_eq, repsK_length k5]; exact hl, rfl⟩, q _ r2 e2⟩
theorem vs_setIxK {tg : Expr} (he : VE X Γ Γ1 W e .fz fe) (hp : PG X tg (gSub (tVar i) (trE X Γ1 Γ2 W .fz fi) rSetK)) (hm : Γ2[i]? = some m) (hu : m.mut = true)
    (hs : swapsWithSole [tg] e pos.line X.env = pure false := by rfl) (hw : swappedStores [tg] e X.env = pure none := by rfl) (h1 : (assignEach [tg] X.env).map (·.2) = [assign tg X.env] := by rfl) : VS X Γ Γ2 S W (.Assign [tg] e pos) (sSetIxK i fi fe) :=
  psImp (ps_asg he hp hs hw h1) fun D σ H ⟨ρ, F, r, q⟩ => ⟨ρ, F, r, Res.sat_imp (Res.sat_bind.mp q) (fun z _ q v H1 F1 e1 r1 vo => by
    obtain ⟨d0, hd0, q⟩ := gv_sat (Res.sat_bind.mp q)
    obtain ⟨w, h1, _⟩ := r1.rdd hd0
    refine ⟨w, h1, z.2, F1, r1, Res.sat_imp (Res.sat_bind.mp q) (fun k _ q u H2 F2 e2 r2 ko => ?_) fun _ h => h.ex.evo e1⟩
    obtain ⟨d, hd, q⟩ := gv_sat (Res.sat_bind.mp q)
    cases d <;> first | exact q.elim | skip
    · rename_i l
      cases hk : k.1 <;> rw [hk] at q <;> first | exact q.elim | skip
      rename_i n
      rw [hk] at ko
      have ko : u = .int n := ko
      subst ko
      dsimp only at q
      split at q
      · rename_i j hj
        exact .inl (set_core r2 hm hu hd hj (rep_mono e2.sf vo) h1 fun H3 r3 e3 => q σ H3 F2 ((e1.trans e2).trans e3) Keep.refl r3)
      · exact q.elim
    · rename_i l
      dsimp only at q
      split at q
      · rename_i hc
        have ko : rep X.K X.mg F2 k.1 u := ko
        exact .inr (put_core r2 hm hu hd hc.1 hc.2 (rep.rdd r2.sub ko) (rep_mono e2.sf vo) h1 fun H3 r3 e3 => q σ H3 F2 ((e1.trans e2).trans e3) Keep.refl r3)
      · exact q.elim) fun _ h => h.ex⟩
/-! ### displays -/
def eDct0 : Ev := fun ρ => .ok (.dct [], ρ)
def eDct1 (fk fv : Ev) : Ev := fun ρ => (fk ρ).bind fun a => (fv a.2).bind fun b => if isKey a.1 = true then .ok (.dct [(a.1, b.1)], b.2) else .bad
theorem ve_dct0 : VE X Γ Γ W (.Dict [] [] pos) .own eDct0 :=
  peImp pe_dnewK fun σ H Q ⟨ρ, F, r, q⟩ p hp => by
    have g0 := Grow.newO (o := .dK []) r.sub hp
    have r0 := r.grow g0
    refine q (.ref p) _ F g0.evo r0 ⟨?_, fun _ c e => by
      cases e
      refine ⟨hp, fun z => ?_⟩
      obtain ⟨o, k, _⟩ := Own.there r z
      rw [hp] at k; cases k⟩
    unfold Cell
    rw [if_pos (show cellD (.dct _) = true from rfl)]
    exact ⟨p, _, rfl, upd_same, ⟨[], rfl, by simp only [repsK]⟩, L2.Same.free r.sub hp⟩
theorem ve_dct1 (hk : VE X Γ Γ1 W k .fz fk) (hv : VE X Γ1 Γ2 W v .fz fv) : VE X Γ Γ2 W (.Dict [some k] [v] pos) .own (eDct1 fk fv) :=
  peImp (pe_disp (pps_cons hk hv pps_nil) rfl rfl (by intro h; cases h) (by simp)) fun σ H Q ⟨ρ, F, r, q⟩ p hp => by
    have g0 := Grow.newO (o := .dK []) r.sub hp
    have r0 := r.grow g0
    have f0 : F p = none := L2.Same.free r.sub hp
    have n0 : ¬ (Own Γ ρ σ).o p := fun z => by
      obtain ⟨o, k, _⟩ := Own.there r z
      rw [hp] at k; cases k
    have b0 : ∀ {O' : Ft} {H' F' : Hp}, Evo (Own Γ ρ σ) H F O' H' F' → ∀ j, ¬ O'.b j p := fun e j hb => by
      obtain ⟨o, ho⟩ := r.brwThere j p (e.ob j p hb)
      rw [hp] at ho; cases ho
    have step : ∀ {O' : Ft} {H' F' : Hp}, Evo (Own Γ ρ σ) (upd H p (.dK [])) F O' H' F' → H' p = some (.dK []) ∧ F' p = none ∧ ¬ O'.o p := fun {O' H' F'} e => by
      obtain ⟨k1, k2⟩ := e.kp p _ upd_same f0 n0
      refine ⟨k1, k2, fun z => ?_⟩
      rcases e.ow p z with w | w
      · exact n0 w
      · rw [upd_same] at w; cases w
    refine ⟨ρ, F, r0, Res.sat_imp (Res.sat_bind.mp q) (fun a _ q x H1 F1 e1 r1 vo1 => ?_) fun _ h => h.evo g0.evo⟩
    refine ⟨a.2, F1, r1, Res.sat_imp (Res.sat_bind.mp q) (fun b _ q y H2 F2 e2 r2 vo2 => ?_) fun _ h => h.evo (g0.evo.trans e1)⟩
    split at q
    · rename_i hc
      have vo1 : rep X.K X.mg F1 a.1 x := vo1
      have vo2 : rep X.K X.mg F2 b.1 y := vo2
      obtain ⟨key, hkey⟩ : ∃ key, toKey a.1 = some key := Option.isSome_iff_exists.mp hc
      obtain ⟨k1, k2, k3⟩ := step (e1.trans e2)
      have ex := key_rep hkey (rep.rdd r1.sub vo1)
      have ee := (g0.evo.trans e1).trans e2
      refine ⟨k1, [(key, y)], by rw [ex]; rfl, by simp, ?_⟩
      refine q (.ref p) (upd H2 p (.dK [(key, y)])) F2 (ee.updNew hp k2) (r2.side k2 k3 (b0 ee)) ⟨?_, fun _ c e => by
        cases e; exact ⟨hp, k3⟩⟩
      unfold Cell
      rw [if_pos (show cellD (.dct _) = true from rfl)]
      exact ⟨p, _, rfl, upd_same, ⟨[(key, y)], rfl, by simp only [repsK]; exact ⟨key, y, [], rfl, hkey, vo2, rfl⟩⟩, k2⟩
    · exact q.elim
/-! ### the lock -/
def tLockK (t : TS) : TS := fun D σ H => ∃ d u, H d = some u ∧ Mut (some u) ∧ ∀ od, t D σ (upd H d (.frz od u))
theorem ps_lockK {t : TS} (h : PS X st t) : PS X st (tLockK t) := by
  refine ⟨fun pins s σ H D I hw => ?_⟩
  obtain ⟨d, u, hd, mu, hw⟩ := hw
  obtain ⟨od, I1⟩ := I.lock hd mu
  exact h.run pins s σ _ D I1 (hw od)
def sLk (i : Nat) (eb : Es) : Es := fun ρ => (gv ρ i).bind fun d => match d with
  | .dct l => eb (ρ.set i (some (.lck l)))
  | _ => .bad
theorem Rel.lockAt {K : PySem.W.Frag} {mg : Str → Option Value} {ρ : Env} {σ : St} {H F : Hp} {l : List (D × D)} (r : Rel K mg Γ ρ σ H F) (hm : Γ[i]? = some .own) (hd : ρ[i]? = some (some (.dct l))) :
    ∃ p xs, H p = some (.dK xs) ∧ ∀ od, ∃ F', Rel K mg (Γ.set i .fz) (ρ.set i (some (.lck l))) σ (L2.upd H p (.frz od (.dK xs))) F' ∧ Evo (Own Γ ρ σ) H F (Own (Γ.set i .fz) (ρ.set i (some (.lck l))) σ) (L2.upd H p (.frz od (.dK xs))) F' := by
  obtain ⟨v, h1, h2⟩ := r.slot i _ _ hm hd
  have h2 : Cell K mg H F v (.dct l) := h2
  unfold Cell at h2
  rw [if_pos (show cellD (.dct l) = true from rfl)] at h2
  obtain ⟨p, o, rfl, k1, ⟨xs, rfl, k5⟩, k3⟩ := h2
  have own : OwnAt Γ ρ σ i p := ⟨_, _, hm, rfl, hd, rfl, h1⟩
  refine ⟨p, xs, k1, fun od => ⟨L2.upd F p (.frz od (.dK xs)), ?_⟩⟩
  have il : i < ρ.length := by
    rcases Nat.lt_or_ge i ρ.length with q | q
    · exact q
    · rw [List.getElem?_eq_none q] at hd; cases hd
  have oa : ∀ {j q}, OwnAt (Γ.set i .fz) (ρ.set i (some (.lck l))) σ j q → OwnAt Γ ρ σ j q ∧ j ≠ i := fun {j q} ⟨m, d, g1, g2, g3, g4, g5⟩ => by
    rcases set_get g1 with ⟨e, rfl, _⟩ | ⟨e, g1⟩
    · cases g2
    · rw [List.getElem?_set_ne e] at g3
      exact ⟨⟨m, d, g1, g2, g3, g4, g5⟩, fun z => e z.symm⟩
  have ob : ∀ {j q}, BrwAt (Γ.set i .fz) (ρ.set i (some (.lck l))) σ j q → BrwAt Γ ρ σ j q := fun {j q} ⟨d, g1, g3, g4, g5⟩ => by
    rcases set_get g1 with ⟨e, g, _⟩ | ⟨e, g1⟩
    · cases g
    · rw [List.getElem?_set_ne e] at g3
      exact ⟨d, g1, g3, g4, g5⟩
  have os : ∀ q, (Own (Γ.set i .fz) (ρ.set i (some (.lck l))) σ).o q → (Own Γ ρ σ).o q ∧ q ≠ p := fun q ⟨j, h⟩ => ⟨⟨j, (oa h).1⟩, fun e => by
    subst e
    exact (oa h).2 (r.inj i j q own (oa h).1).symm⟩
  have sf : Same F (L2.upd F p (.frz od (.dK xs))) := Same.updF k3
  have sh : Same (L2.upd F p (.frz od (.dK xs))) (L2.upd H p (.frz od (.dK xs))) := fun b x e => by
    by_cases hb : b = p
    · subst hb; rw [upd_same] at e ⊢; exact e
    · rw [upd_ne hb] at e ⊢; exact r.sub _ _ e
  have cell : ∀ {j : Nat} {m : Md} {d : D} {w : V}, i ≠ j → Γ[j]? = some m → m.mut = true → ρ[j]? = some (some d) → σ[j]? = some (some w) → Cell K mg H F w d → Cell K mg (L2.upd H p (.frz od (.dK xs))) (L2.upd F p (.frz od (.dK xs))) w d := fun {j m d w} e g1 mu g2 w1 c => by
    unfold Cell at c ⊢
    split
    · rename_i hc
      rw [if_pos hc] at c
      obtain ⟨q, u, rfl, c1, c2, c3⟩ := c
      have : q ≠ p := fun z => by
        subst z
        exact e (r.inj i j q own ⟨m, d, g1, mu, g2, hc, w1⟩)
      exact ⟨q, u, rfl, by rw [upd_ne this]; exact c1, cont_mono sf c2, by rw [upd_ne this]; exact c3⟩
    · rename_i hc
      rw [if_neg hc] at c
      exact rep_mono sf c
  refine ⟨⟨by rw [List.length_set]; exact r.lr, by rw [List.length_set]; exact r.lg, fun j m d' g1 g2 => ?_, fun a b q g1 g2 => r.inj a b q (oa g1).1 (oa g2).1, sh⟩, ⟨sf, sh, fun q u g1 g2 n => ?_, fun q g => ?_, fun q h => .inl (os q h).1, fun _ _ h => ob h⟩⟩
  · rcases set_get g1 with ⟨e, rfl, _⟩ | ⟨e, g1⟩
    · subst e
      rw [List.getElem?_set_self il] at g2; cases g2
      refine ⟨.ref p, h1, ?_⟩
      show rep K mg _ (.lck l) (.ref p)
      simp only [rep]
      exact ⟨p, od, xs, rfl, upd_same, repsK_mono sf k5⟩
    · rw [List.getElem?_set_ne e] at g2
      obtain ⟨w, w1, w2⟩ := r.slot j m d' g1 g2
      refine ⟨w, w1, ?_⟩
      cases m with
      | fz => exact rep_mono sf w2
      | own => exact cell e g1 rfl g2 w1 w2
      | io q => exact ⟨w2.1, w2.2.1, cell e g1 rfl g2 w1 w2.2.2⟩
      | xc a c x => exact xc_mono sf w2
      | brw =>
        have w2 : RdN K mg (Own Γ ρ σ) H F w d' := w2
        show RdN K mg _ _ _ w d'
        unfold RdN at w2 ⊢
        split
        · rename_i hc
          rw [if_pos hc] at w2
          obtain ⟨q, u, rfl, c1, c2, c3⟩ := w2
          have hq : q ≠ p := fun z => by
            subst z
            rcases c3 with c3 | ⟨_, c4⟩
            · rw [k3] at c3; cases c3
            · exact c4 ⟨i, own⟩
          refine ⟨q, u, rfl, by rw [upd_ne hq]; exact c1, cont_mono sf c2, ?_⟩
          rw [upd_ne hq]
          rcases c3 with c3 | ⟨c3, c4⟩
          · exact .inl c3
          · exact .inr ⟨c3, fun z => c4 (os _ z).1⟩
        · rename_i hc
          rw [if_neg hc] at w2
          exact rep_mono sf w2
  · have hq : q ≠ p := fun z => n (by subst z; exact ⟨i, own⟩)
    rw [upd_ne hq, upd_ne hq]; exact ⟨g1, g2⟩
  · by_cases hq : q = p
    · subst hq; rw [upd_same] at g; cases g
    · rw [upd_ne hq] at g; exact g
theorem vs_lk (hm : Γ[i]? = some .own) (h : VS X (Γ.set i .fz) Γ' S W st eb) : VS X Γ Γ' S W st (sLk i eb) :=
  psImp (ps_lockK h) fun D σ H ⟨ρ, F, r, q⟩ => by
    obtain ⟨d, hd, q⟩ := gv_sat (Res.sat_bind.mp q)
    cases d <;> first | exact q.elim | skip
    obtain ⟨p, xs, h2, h3⟩ := r.lockAt hm hd
    refine ⟨p, .dK xs, h2, True.intro, fun od => ?_⟩
    obtain ⟨F', r2, e2⟩ := h3 od
    exact ⟨_, F', r2, Res.sat_imp q (fun fl _ q => q.evo e2 Keep.refl) fun _ h => h.evo e2 Keep.refl⟩
/-! ### for k in d -/
def keysR : D → Res (List D)
  | .lck l => .ok (l.map (·.1))
  | _ => .bad
def eKeys (f : Ev) : Eit := fun ρ => (f ρ).bind fun r => (keysR r.1).bind fun l => .ok (l, r.2)
theorem walks_keys {K : PySem.W.Frag} {mg : Str → Option Value} {O : Ft} {H F : Hp} {l : List (D × D)} {xs : List (Key × V)} {p : Addr} {od : Obj} (h1 : F p = some (.frz od (.dK xs))) (h2 : repsK K mg F l xs) : Walks K mg (Itk p od xs) (l.map (·.1)) O H F := by
  refine ⟨fun O H F => F p = some (.frz od (.dK xs)) ∧ repsK K mg F l xs, ⟨h1, h2⟩, ?_, ?_⟩
  · rintro O1 H1 F1 O2 H2 F2 ⟨g1, g2⟩ e
    exact ⟨e.sf _ _ g1, repsK_mono e.sf g2⟩
  · rintro i O H F ⟨g1, g2⟩ s
    have hl := repsK_length g2
    refine ⟨fun d hd => ?_, fun e => ⟨s _ _ g1, by rw [e, List.length_map, hl]; exact Nat.le_refl _⟩⟩
    have hi : i < xs.length := by
      rcases Nat.lt_or_ge i xs.length with q | q
      · exact q
      · rw [List.getElem?_eq_none (by simp; omega)] at hd; cases hd
    refine ⟨⟨s _ _ g1, hi⟩, ?_⟩
    rintro x H' ⟨e, k, v, hk, ex⟩
    subst e ex
    obtain ⟨q, q1, q2, q3⟩ := repsK_get g2 hk
    rw [List.getElem?_map, q1] at hd
    cases hd
    exact ⟨F, Grow.refl s, rep_key q2⟩
theorem vi_keys (h : VB X Γ Γ' W iter (.ex ev)) : VI X Γ Γ' W tg iter (eKeys ev) :=
  piImp (pi_keys h) fun σ H R ⟨ρ, F, r, q⟩ => ⟨ρ, F, r, Res.sat_bind.mpr (Res.sat_imp (Res.sat_bind.mp q) (fun z _ q v H1 F1 e1 r1 b1 => by
    cases hz : z.1 <;> rw [hz] at q <;> first | exact q.elim | skip
    have b1 : RdN X.K X.mg (Own Γ' z.2 σ) H1 F1 v z.1 := b1
    rw [hz] at b1
    have b1 := Rdd.of_rep rfl b1.rdd
    simp only [rep] at b1
    obtain ⟨p, od, xs, rfl, g1, g2⟩ := b1
    exact ⟨p, od, rfl, .inl ⟨xs, r1.sub _ _ g1, q _ H1 F1 e1 r1 (walks_keys g1 g2)⟩⟩) fun _ h => h)⟩
end
end VL

set_option Elab.async false
set_option linter.all false
set_option maxRecDepth 100000
/-! VL28: xs[::-1]. -/
namespace VL
open PySem PySem.Spec PyProof.Rows L2
def dRev : D → Option D
  | .lst l => some (.lst l.reverse)
  | _ => none
def eRev (oa : Opd) : Ev := fun ρ => (oa.run ρ).bind fun p => (oa.fin p.1 p.2).bind fun da => (opt (dRev da)).bind fun d => .ok (d, p.2)
theorem hu_of1 {a : Nat} (h : a + 65 < cLine) : a + 1 < cLine := by omega
section
variable {X : Cx} {Γ Γ' Γ1 : Gm} {W : WE} {a : Expr} {oa : Opd} {k : Nat} {p1 p2 p3 pos : Pos}
theorem ve_rev (ha : VB X Γ Γ1 W a oa) : VE X Γ Γ1 W (.Subscript a (.Slice none none (some (.UnaryOp .USub (.Constant (.int 1) k p1) p2)) p3) pos) .own (eRev oa) :=
  peImp (pe_revL ha) fun σ H Q ⟨ρ, F, r, q⟩ => ⟨ρ, F, r, Res.sat_imp (Res.sat_bind.mp q) (fun p _ q v H1 F1 e1 r1 b1 => by
    obtain ⟨da, hda, q⟩ := fin_sat q
    obtain ⟨d, hd, q⟩ := opt_sat (Res.sat_bind.mp q)
    have rd := b1.fin r1 (Evo.refl r1.sub) hda
    unfold dRev at hd
    split at hd <;> cases hd
    obtain ⟨c, vs, rfl, h1, h2⟩ := rd.lst
    refine ⟨c, vs, rfl, .of h1, fun n hn => ?_⟩
    have n' := (NewOk.newL hn r1.sub (reps_reverse h2)).val r1
    exact q _ _ _ (e1.trans (Grow.newO r1.sub hn).evo) (r1.grow (Grow.newO r1.sub hn)) ⟨n'.1, fun c p e => ⟨e1.dom p (n'.2 c p e).1, (n'.2 c p e).2⟩⟩) fun _ h => h⟩
end
end VL

set_option Elab.async false
set_option linter.all false
set_option maxRecDepth 100000
/-! VL30: min, max with default= (a list of whole numbers). -/
namespace VL
open PySem PySem.Spec PyProof.Rows L2 PySem.W
theorem ints_reads {h : Heap} : ∀ {vs : List Value} {ns : List Int}, Vals (ns.map V.int) vs → ReadsAll h vs (ns.map PyData.int) []
  | _, [], h => by cases h; exact .nil
  | _, n :: ns, h => by
    cases h with
    | cons h1 h2 =>
      obtain ⟨t, rfl⟩ := h1
      exact .cons (.int n t) (ints_reads h2)
theorem ints_alike (ns : List Int) : AlikeAll (ns.map PyData.int) := by
  refine ⟨fun a ha b hb => ?_, fun a ha e => ?_⟩
  · obtain ⟨x, _, rfl⟩ := List.mem_map.mp ha
    obtain ⟨y, _, rfl⟩ := List.mem_map.mp hb
    simp [alike]
  · obtain ⟨x, _, rfl⟩ := List.mem_map.mp ha
    cases e
theorem depth_ints : ∀ ns : List Int, PyData.depthAll (ns.map PyData.int) ≤ 1
  | [] => by simp [PyData.depthAll]
  | n :: ns => by have := depth_ints ns; simp only [List.map_cons, PyData.depthAll, PyData.depth]; omega
theorem fold_min : ∀ (r : List Int) (x : Int), r.foldl min x ∈ x :: r ∧ ∀ y ∈ x :: r, r.foldl min x ≤ y
  | [], x => ⟨List.mem_cons_self, fun y hy => by simp at hy; rw [hy]; exact Int.le_refl _⟩
  | z :: r, x => by
    obtain ⟨a, b⟩ := fold_min r (min x z)
    rw [List.foldl_cons]
    have c := b (min x z) List.mem_cons_self
    refine ⟨?_, fun y hy => ?_⟩
    · rcases List.mem_cons.mp a with e | h
      · rw [e]; rcases (show min x z = x ∨ min x z = z by omega) with h | h <;> rw [h] <;> simp
      · exact List.mem_cons_of_mem _ (List.mem_cons_of_mem _ h)
    · rcases List.mem_cons.mp hy with rfl | hy
      · omega
      · rcases List.mem_cons.mp hy with rfl | hy
        · omega
        · exact b y (List.mem_cons_of_mem _ hy)
theorem fold_max : ∀ (r : List Int) (x : Int), r.foldl max x ∈ x :: r ∧ ∀ y ∈ x :: r, y ≤ r.foldl max x
  | [], x => ⟨List.mem_cons_self, fun y hy => by simp at hy; rw [hy]; exact Int.le_refl _⟩
  | z :: r, x => by
    obtain ⟨a, b⟩ := fold_max r (max x z)
    rw [List.foldl_cons]
    have c := b (max x z) List.mem_cons_self
    refine ⟨?_, fun y hy => ?_⟩
    · rcases List.mem_cons.mp a with e | h
      · rw [e]; rcases (show max x z = x ∨ max x z = z by omega) with h | h <;> rw [h] <;> simp
      · exact List.mem_cons_of_mem _ (List.mem_cons_of_mem _ h)
    · rcases List.mem_cons.mp hy with rfl | hy
      · omega
      · rcases List.mem_cons.mp hy with rfl | hy
        · omega
        · exact b y (List.mem_cons_of_mem _ hy)
section
variable {X : Cx} {K : PySem.W.Frag} {mg : Str → Option Value}
def rMinKw (K : PySem.W.Frag) : List V → List V → Hp → VK → Prop := fun vs zs H Q => ∃ (a : Addr) (ns : List Int) (d : V), vs = [V.ref a] ∧ zs = [d] ∧ SqL K H a (ns.map V.int) ∧ (ns = [] → Q d H) ∧ ∀ m, m ∈ ns → (∀ y, y ∈ ns → m ≤ y) → Q (.int m) H
def rMaxKw (K : PySem.W.Frag) : List V → List V → Hp → VK → Prop := fun vs zs H Q => ∃ (a : Addr) (ns : List Int) (d : V), vs = [V.ref a] ∧ zs = [d] ∧ SqL K H a (ns.map V.int) ∧ (ns = [] → Q d H) ∧ ∀ m, m ∈ ns → (∀ y, y ∈ ns → y ≤ m) → Q (.int m) H
theorem cr_minKw (hc : X.calm = true) (hu : X.A.units + 64 < cLine) : CallRK X (.builtin "min") [Str.ofString "default"] (rMinKw X.K) := by
  intro pins s σ H xs zs us ws Q I r1 r2 h
  obtain ⟨a, ns, d, rfl, rfl, hs, q0, q⟩ := h
  obtain ⟨its, rv, hl, _⟩ := I.list hs
  rw [Vals.ref1 r1]
  obtain ⟨u, rfl, ru⟩ : ∃ u, ws = [u] ∧ RelV d u := by
    cases r2 with
    | cons h1 h2 => cases h2; exact ⟨_, rfl, h1⟩
  have dp := depth_ints ns
  refine min_list_default (xs := ns.map PyData.int) (I.ok.hd hc) hl.isList (ints_reads (by simpa using rv)) (ints_alike ns) (by omega) (fun e h' tk hk => ?_) (fun y ys i v h' tk bs e _ rd hk => ?_)
  · exact ⟨d, H, I.kept hk, ru, q0 (List.map_eq_nil_iff.mp e)⟩
  · cases ns with
    | nil => cases e
    | cons n ns =>
      simp only [List.map_cons, List.cons.injEq] at e
      obtain ⟨rfl, rfl⟩ := e
      rw [minD_ints] at rd
      obtain ⟨t, rfl, _⟩ := PyProof.Rows.reads_int_inv rd
      obtain ⟨h1, h2⟩ := fold_min ns n
      exact ⟨.int _, H, I.kept hk, ⟨_, rfl⟩, q _ h1 h2⟩
theorem cr_maxKw (hc : X.calm = true) (hu : X.A.units + 64 < cLine) : CallRK X (.builtin "max") [Str.ofString "default"] (rMaxKw X.K) := by
  intro pins s σ H xs zs us ws Q I r1 r2 h
  obtain ⟨a, ns, d, rfl, rfl, hs, q0, q⟩ := h
  obtain ⟨its, rv, hl, _⟩ := I.list hs
  rw [Vals.ref1 r1]
  obtain ⟨u, rfl, ru⟩ : ∃ u, ws = [u] ∧ RelV d u := by
    cases r2 with
    | cons h1 h2 => cases h2; exact ⟨_, rfl, h1⟩
  have dp := depth_ints ns
  refine max_list_default (xs := ns.map PyData.int) (I.ok.hd hc) hl.isList (ints_reads (by simpa using rv)) (ints_alike ns) (by omega) (fun e h' tk hk => ?_) (fun y ys i v h' tk bs e _ rd hk => ?_)
  · exact ⟨d, H, I.kept hk, ru, q0 (List.map_eq_nil_iff.mp e)⟩
  · cases ns with
    | nil => cases e
    | cons n ns =>
      simp only [List.map_cons, List.cons.injEq] at e
      obtain ⟨rfl, rfl⟩ := e
      rw [maxD_ints] at rd
      obtain ⟨t, rfl, _⟩ := PyProof.Rows.reads_int_inv rd
      obtain ⟨h1, h2⟩ := fold_max ns n
      exact ⟨.int _, H, I.kept hk, ⟨_, rfl⟩, q _ h1 h2⟩
/-! ### by values -/
def fMinLD (d : D) : List D → Option D
  | [.lst l] => match intsOf l with
    | some (x :: r) => some (.int (r.foldl min x))
    | some [] => some d
    | _ => none
  | _ => none
def fMaxLD (d : D) : List D → Option D
  | [.lst l] => match intsOf l with
    | some (x :: r) => some (.int (r.foldl max x))
    | some [] => some d
    | _ => none
  | _ => none
abbrev fMaxLn1 : List D → Option D := fMaxLD (.int (-1))
theorem c_minLD {v : V} {dv : D} (hc : cellD dv = false) (hr : ∀ F, rep K mg F dv v) : CallF K mg (fMinLD dv) (fun vs H Q => rMinKw K vs [v] H Q) .fz := by
  intro H F vs ds d Q s r hf q
  unfold fMinLD at hf
  split at hf
  · split at hf <;> cases hf
    · rename_i x t hn
      have e := intsOf_ok hn
      subst e
      obtain ⟨v', w, rfl, h1, rfl⟩ := r
      obtain ⟨p, vs, rfl, h2, h3⟩ := h1.lst
      rw [reps_ints h3] at h2
      refine ⟨p, _, v, rfl, rfl, .of h2, (fun e => by cases e), fun m hm hy => ?_⟩
      obtain ⟨k1, k2⟩ := fold_min t x
      have a1 := hy _ k1
      have a2 := k2 m hm
      have e : m = t.foldl min x := by omega
      subst e
      exact q _ H F (Grow.refl s) (.atom rfl rfl)
    · rename_i hn
      have e := intsOf_ok hn
      subst e
      obtain ⟨v', w, rfl, h1, rfl⟩ := r
      obtain ⟨p, vs, rfl, h2, h3⟩ := h1.lst
      rw [reps_ints h3] at h2
      exact ⟨p, [], v, rfl, rfl, .of h2, (fun _ => q _ H F (Grow.refl s) (.atom hc (hr F))), fun m hm => by cases hm⟩
  · cases hf
theorem c_maxLD {v : V} {dv : D} (hc : cellD dv = false) (hr : ∀ F, rep K mg F dv v) : CallF K mg (fMaxLD dv) (fun vs H Q => rMaxKw K vs [v] H Q) .fz := by
  intro H F vs ds d Q s r hf q
  unfold fMaxLD at hf
  split at hf
  · split at hf <;> cases hf
    · rename_i x t hn
      have e := intsOf_ok hn
      subst e
      obtain ⟨v', w, rfl, h1, rfl⟩ := r
      obtain ⟨p, vs, rfl, h2, h3⟩ := h1.lst
      rw [reps_ints h3] at h2
      refine ⟨p, _, v, rfl, rfl, .of h2, (fun e => by cases e), fun m hm hy => ?_⟩
      obtain ⟨k1, k2⟩ := fold_max t x
      have a1 := hy _ k1
      have a2 := k2 m hm
      have e : m = t.foldl max x := by omega
      subst e
      exact q _ H F (Grow.refl s) (.atom rfl rfl)
    · rename_i hn
      have e := intsOf_ok hn
      subst e
      obtain ⟨v', w, rfl, h1, rfl⟩ := r
      obtain ⟨p, vs, rfl, h2, h3⟩ := h1.lst
      rw [reps_ints h3] at h2
      exact ⟨p, [], v, rfl, rfl, .of h2, (fun _ => q _ H F (Grow.refl s) (.atom hc (hr F))), fun m hm => by cases hm⟩
  · cases hf
variable {Γ Γ' : Gm} {W : WE} {e e2 : Expr} {es : List Expr} {p pos kpos : Pos} {as : List Arg} {m : Md} {nm : Str}
theorem pe_negC {i : Int} {j} {pos' : Pos} : PE X (.UnaryOp .USub (.Constant (.int i) j pos') pos) (tC (.int (-i))) := peImp (pe_un un_neg pe_int) fun σ H Q h => ⟨i, rfl, h⟩
theorem ve_callBK {id : String} {x : Str} {f : List D → Option D} {r : List V → List V → Hp → VK → Prop} {v : V} (hc : CallRK X (.builtin id) [nm] r) (hf : CallF X.K X.mg f (fun vs H Q => r vs [v] H Q) m) (hg : Gl X x) (hm : X.mg x = none) (hv : bootBuiltins x = some (.builtin id)) (ha : VA X Γ Γ' W (e :: es) as) (hk : PE X e2 (tC v)) (hn : x ≠ "__name__" := by decide) (hdb : (x == ("__debug__" : Str)) = false := by decide)
    (he : backTo pos (starEach (e :: es) X.env) = (false, eval e X.env) :: backTo pos (starEach es X.env) := by rfl) (hpl : (backTo pos (starEach (e :: es) X.env)).any (·.1) = false := by rfl)
    (hall : (backToKw pos (keywordEach [⟨some nm, e2, kpos⟩] X.env)).all (·.1.isSome) = true := by rfl) (hnone : (backToKw pos (keywordEach [⟨some nm, e2, kpos⟩] X.env)).any (·.1.isNone) = false := by rfl) (hks : (backToKw pos (keywordEach [⟨some nm, e2, kpos⟩] X.env)).filterMap (·.1) = [nm] := by rfl) :
    VE X Γ Γ' W (.Call (.Name x p) (e :: es) [⟨some nm, e2, kpos⟩] pos) m (eCall f as) :=
  peImp (pe_callBK hc hg hm hv ha (pk_cons hk pk_nil) hn hdb he hpl hall hnone hks) fun _ _ _ h => call_tr hf h
end
end VL

set_option Elab.async false
set_option linter.all false
set_option maxRecDepth 100000
/-! VL38: what a def tells may be changed where it stands: x = f(..), things that only read, x[k].append(..). -/
namespace VL
open PySem PySem.Spec PyProof.Rows L2
mutual
/-- no list, no dict, no object within -/
def pureD : D → Bool
  | .non => true
  | .bl _ => true
  | .int _ => true
  | .str _ => true
  | .tup ds => pureDs ds
  | _ => false
def pureDs : List D → Bool
  | [] => true
  | d :: ds => pureD d && pureDs ds
end
def pure1 : D → Bool
  | .lst ds => pureDs ds
  | d => pureD d
def scaD : D → Bool
  | .non => true
  | .bl _ => true
  | .int _ => true
  | .str _ => true
  | _ => false
/-- a heap without its lists -/
def noL (H : Hp) : Hp := fun p => match H p with
  | some (.lst _) => none
  | x => x
section
variable {K : PySem.W.Frag} {mg : Str → Option Value} {H F H' F' : Hp} {p : Addr} {o : HO} {v : V} {d : D} {Γ : Gm} {ρ ρ' : Env} {σ σ' : St}
theorem noL_some (h : noL H p = some o) : H p = some o ∧ ∀ vs, o ≠ .lst vs := by
  unfold noL at h
  split at h
  · cases h
  · rename_i x hx
    exact ⟨h, fun vs e => hx vs (by rw [h, e])⟩
theorem noL_tup {vs : List V} (h : Rd H p (.tup vs)) : Rd (noL H) p (.tup vs) := by
  rcases h with h | ⟨o, h⟩
  · exact .inl (by unfold noL; rw [h])
  · exact .inr ⟨o, by unfold noL; rw [h]⟩
theorem noL_lst {vs : List V} (h : H p = some (.lst vs)) : noL H p = none := by unfold noL; rw [h]
mutual
theorem rep_noL : ∀ {d : D} {v : V}, pureD d = true → rep K mg H d v → rep K mg (noL H) d v
  | .non, _, _, h => by simpa only [rep] using h
  | .bl _, _, _, h => by simpa only [rep] using h
  | .int _, _, _, h => by simpa only [rep] using h
  | .str _, _, _, h => by simpa only [rep] using h
  | .tup ds, _, f, h => by
    simp only [pureD] at f
    simp only [rep] at h ⊢
    obtain ⟨p, vs, e, h1, h2⟩ := h
    refine ⟨p, vs, e, ?_, reps_noL f h2⟩
    rcases h1 with h1 | h1
    · exact .inl (noL_tup h1)
    · exact .inr h1
  | .lst _, _, f, _ => by simp [pureD] at f
  | .dct _, _, f, _ => by simp [pureD] at f
  | .lck _, _, f, _ => by simp [pureD] at f
  | .obj _ _, _, f, _ => by simp [pureD] at f
  | .scr _, _, f, _ => by simp [pureD] at f
  | .exc _ _, _, f, _ => by simp [pureD] at f
theorem reps_noL : ∀ {ds : List D} {vs : List V}, pureDs ds = true → reps K mg H ds vs → reps K mg (noL H) ds vs
  | [], _, _, h => by simpa only [reps] using h
  | d :: ds, _, f, h => by
    simp only [pureDs, Bool.and_eq_true] at f
    simp only [reps] at h ⊢
    obtain ⟨v, r, e, h1, h2⟩ := h
    exact ⟨v, r, e, rep_noL f.1 h1, reps_noL f.2 h2⟩
end
theorem rep_scal (h : scaD d = true) (r : rep K mg F d v) : rep K mg F' d v := by
  cases d <;> first | (cases h; done) | simpa only [rep] using r
theorem Same.noL : Same (noL H) H := fun _ _ e => (noL_some e).1
/-- whatever stands is read -/
theorem Rdd.all (s : Same F H) (r : Rdd K mg H F v d) : rep K mg H d v := by
  unfold Rdd at r
  split at r
  · rename_i hc
    obtain ⟨p, o, e, h1, c⟩ := r
    exact (rep_cell hc).mpr ⟨p, o, e, h1, cont_mono s c⟩
  · exact rep_mono s r
/-- what has no lists within is borrowed from a heap without lists -/
theorem Rdd.brw {O : Ft} (hO : ∀ p, ¬ O.o p) (s : Same F H) (hf : pure1 d = true) (r : Rdd K mg H F v d) : RdN K mg O H (noL H) v d := by
  have r := r.all s
  unfold RdN
  cases d with
  | lst ds =>
    have hf : pureDs ds = true := hf
    simp only [rep] at r
    obtain ⟨p, vs, e, h1, h2⟩ := r
    rw [if_pos (show cellD (.lst ds) = true from rfl)]
    exact ⟨p, _, e, h1, ⟨vs, rfl, reps_noL hf h2⟩, .inr ⟨noL_lst h1, hO p⟩⟩
  | dct _ => simp [pure1, pureD] at hf
  | obj _ _ => simp [pure1, pureD] at hf
  | _ => first | (rw [if_neg (by simp [cellD])]; exact rep_noL (by simpa [pure1] using hf) r) | (simp [pure1, pureD] at hf)
end
/-! ### environments -/
def putL : List Nat → Env → Env → Res Env
  | [], _, e => .ok e
  | j :: js, ρ, e => (gv ρ j).bind fun d => if pure1 d = true then putL js ρ (e.set j (some d)) else .bad
def putK : List Nat → Env → Env → Res Env
  | [], _, e => .ok e
  | k :: ks, ρ, e => (gv ρ k).bind fun d => if scaD d = true then putK ks ρ (e.set k (some d)) else .bad
def isSet : List Nat → Env → Res Unit
  | [], _ => .ok ()
  | j :: js, ρ => (gv ρ j).bind fun _ => isSet js ρ
def getL (d : D) (k : Nat) : Res (List D) := match d with
  | .tup ds => match ds[k]? with
    | some (.lst us) => .ok us
    | _ => .bad
  | _ => .bad
/-- x = f(..), a block that only reads, n times x[k].append(..) -/
def sFr (i : Nat) (As Ls Ks : List Nat) (ev : Ev) (eb : Es) (k n : Nat) (Js : List Nat) : Es := fun ρ =>
  (putL Ls ρ (ρ.map fun _ => none)).bind fun ρb => (noexn (ev ρb)).bind fun r => (noexn (eb (ρ.set i (some r.1)))).bind fun fl => match fl with
    | .next ρ2 => (putK Ks ρ2 (wipeE ρ (i :: As))).bind fun ρ3 => (isSet Js ρ3).bind fun _ => (getL r.1 k).bind fun us => if us.length + n ≤ 16777216 then .ok (.next ρ3) else .bad
    | .ret d _ => if scaD d = true then .ok (.ret d (wipeE ρ (i :: As))) else .bad
    | _ => .bad
section
variable {ρ ρ2 e e' : Env}
theorem putL_spec : ∀ {js : List Nat} {e : Env}, putL js ρ e = .ok e' → e'.length = e.length ∧ ∀ (j : Nat) (d : D), e'[j]? = some (some d) → e[j]? = some (some d) ∨ (ρ[j]? = some (some d) ∧ pure1 d = true)
  | [], e, h => by cases h; exact ⟨rfl, fun j d h => .inl h⟩
  | j :: js, e, h => by
    unfold putL at h
    rcases gv_cases ρ j with ⟨d, e1, e2⟩ | e1
    · rw [e1] at h
      simp only [Res.bind_ok] at h
      split at h
      · rename_i hf
        obtain ⟨l, q⟩ := putL_spec h
        refine ⟨by rw [l, List.length_set], fun k d' hk => ?_⟩
        rcases q k d' hk with z | z
        · rcases set_get z with ⟨w, w2, _⟩ | ⟨w, z⟩
          · cases w2; subst w; exact .inr ⟨e2, hf⟩
          · exact .inl z
        · exact .inr z
      · cases h
    · rw [e1] at h; cases h
theorem putK_spec : ∀ {ks : List Nat} {e : Env}, putK ks ρ e = .ok e' → e'.length = e.length ∧ (∀ j : Nat, j ∉ ks → e'[j]? = e[j]?) ∧ ∀ (j : Nat) (d : D), j ∈ ks → e'[j]? = some (some d) → ρ[j]? = some (some d) ∧ scaD d = true
  | [], e, h => by cases h; exact ⟨rfl, fun _ _ => rfl, fun j d h => by cases h⟩
  | k :: ks, e, h => by
    unfold putK at h
    rcases gv_cases ρ k with ⟨d, e1, e2⟩ | e1
    · rw [e1] at h
      simp only [Res.bind_ok] at h
      split at h
      · rename_i hf
        obtain ⟨l, q1, q2⟩ := putK_spec h
        refine ⟨by rw [l, List.length_set], fun j hj => ?_, fun j d' hj hd => ?_⟩
        · rw [q1 j fun z => hj (List.mem_cons_of_mem _ z), List.getElem?_set_ne (fun z => hj (by rw [z]; exact List.mem_cons_self))]
        · by_cases z : j ∈ ks
          · exact q2 j d' z hd
          · rcases List.mem_cons.mp hj with rfl | w
            · rw [q1 j z] at hd
              rcases set_get hd with ⟨_, w2, _⟩ | ⟨w, _⟩
              · cases w2; exact ⟨e2, hf⟩
              · exact absurd rfl w
            · exact absurd w z
      · cases h
    · rw [e1] at h; cases h
theorem isSet_spec : ∀ {js : List Nat}, isSet js ρ = .ok () → ∀ j ∈ js, ∃ d, ρ[j]? = some (some d)
  | [], _, j, hj => by cases hj
  | k :: js, h, j, hj => by
    unfold isSet at h
    rcases gv_cases ρ k with ⟨d, e1, e2⟩ | e1
    · rw [e1] at h
      rcases List.mem_cons.mp hj with rfl | hj
      · exact ⟨d, e2⟩
      · exact isSet_spec h j hj
    · rw [e1] at h; cases h
theorem wipeE_len : ∀ {vs : List Nat}, (wipeE ρ vs).length = ρ.length
  | [] => rfl
  | v :: vs => by rw [wipeE, List.length_set, wipeE_len]
theorem wipeE_get : ∀ {vs : List Nat} {j : Nat} {d : D}, (wipeE ρ vs)[j]? = some (some d) → j ∉ vs ∧ ρ[j]? = some (some d)
  | [], j, d, h => ⟨by simp, h⟩
  | v :: vs, j, d, h => by
    unfold wipeE at h
    rcases set_get h with ⟨_, w, _⟩ | ⟨w, h⟩
    · cases w
    · obtain ⟨a, b⟩ := wipeE_get h
      exact ⟨by rw [List.mem_cons]; rintro (z | z); exact w z.symm; exact a z, b⟩
end
/-! ### the heap behind such a block -/
section
variable {K : PySem.W.Frag} {mg : Str → Option Value} {Γ : Gm} {ρ ρ3 : Env} {σ σ2 : St} {H F H2 : Hp} {Z : List Nat}
/-- only more stands; the slots of Z are frozen ones: unset or scalars -/
theorem Rel.scope (r : Rel K mg Γ ρ σ H F) (hz : ∀ j ∈ Z, Γ[j]? = some .fz) (kp : Keep Z σ σ2) (hh : ∀ p o, H p = some o → H2 p = some o) (l3 : ρ3.length = ρ.length) (h3 : ∀ j d, ρ3[j]? = some (some d) → (j ∉ Z ∧ ρ[j]? = some (some d)) ∨ (j ∈ Z ∧ ∃ v, σ2[j]? = some (some v) ∧ rep K mg F d v)) :
    Rel K mg Γ ρ3 σ2 H2 F ∧ Evo (Own Γ ρ σ) H F (Own Γ ρ3 σ2) H2 F ∧ ∀ p, (Own Γ ρ3 σ2).o p → (Own Γ ρ σ).o p := by
  have own : ∀ j p, OwnAt Γ ρ3 σ2 j p → OwnAt Γ ρ σ j p := by
    rintro j p ⟨m, d, g1, g2, g3, g4, g5⟩
    rcases h3 j d g3 with ⟨n, q⟩ | ⟨n, _⟩
    · exact ⟨m, d, g1, g2, q, g4, by rw [← kp.2 j n]; exact g5⟩
    · rw [hz j n] at g1; cases g1; cases g2
  have brw : ∀ j p, BrwAt Γ ρ3 σ2 j p → BrwAt Γ ρ σ j p := by
    rintro j p ⟨d, g1, g3, g4, g5⟩
    rcases h3 j d g3 with ⟨n, q⟩ | ⟨n, _⟩
    · exact ⟨d, g1, q, g4, by rw [← kp.2 j n]; exact g5⟩
    · rw [hz j n] at g1; cases g1
  have g : Grow H F H2 F := ⟨Same.refl _, fun b x e => hh _ _ (r.sub _ _ e), hh, fun _ _ _ f => f⟩
  have ev : Evo (Own Γ ρ σ) H F (Own Γ ρ3 σ2) H2 F := ⟨g.sf, g.sh, fun p o h f _ => ⟨hh p o h, f⟩, fun p h => (by
    cases e : H p with
    | none => rfl
    | some o => rw [hh p o e] at h; cases h), fun p ⟨j, h⟩ => .inl ⟨j, own j p h⟩, fun j p h => brw j p h⟩
  refine ⟨⟨by rw [l3, r.lr, kp.1], by rw [r.lg, kp.1], fun j m d g1 g2 => ?_, fun a b p ga gb => r.inj a b p (own a p ga) (own b p gb), g.sh⟩, ev, fun p ⟨j, h⟩ => ⟨j, own j p h⟩⟩
  rcases h3 j d g2 with ⟨n, q⟩ | ⟨n, v, q1, q2⟩
  · obtain ⟨v, h1, h2⟩ := r.slot j m d g1 q
    refine ⟨v, by rw [kp.2 j n]; exact h1, ?_⟩
    have h2 := h2.grow g
    cases m with
    | fz => exact h2
    | own => exact h2
    | xc a c x => exact h2
    | io q => exact h2
    | brw =>
      have h2 : RdN K mg (Own Γ ρ σ) H2 F v d := h2
      show RdN K mg (Own Γ ρ3 σ2) H2 F v d
      unfold RdN at h2 ⊢
      split
      · rename_i hc
        rw [if_pos hc] at h2
        obtain ⟨p, o, e, k1, k2, k3⟩ := h2
        refine ⟨p, o, e, k1, k2, ?_⟩
        rcases k3 with k3 | ⟨k3, k4⟩
        · exact .inl k3
        · exact .inr ⟨k3, fun ⟨a, z⟩ => k4 ⟨a, own a p z⟩⟩
      · rename_i hc
        rw [if_neg hc] at h2; exact h2
  · rw [hz j n] at g1; cases g1
    exact ⟨v, q1, q2⟩
end
theorem execs_app0 {M : Model} {G : PySem.Ctx} {env : PySem.Env} {rest : List Stmt} {Q : Flow → Pos → Shared → Prop} {E : Value → Pos → Shared → Prop} : ∀ {B : List Stmt} {p : Pos} {s : Shared}, PySem.Sem.wp M G (execs B env) (fun f p' s' => match f with | .next => PySem.Sem.wp M G (execs rest env) Q E p' s' | f => Q f p' s') E p s → PySem.Sem.wp M G (execs (B ++ rest) env) Q E p s
  | [], p, s, h => h
  | st :: B, p, s, h => by
    rw [List.cons_append, PySem.execs_cons, PySem.Sem.wp_bind']
    rw [PySem.execs_cons, PySem.Sem.wp_bind'] at h
    refine PySem.Sem.wp_mono M G _ (fun f p' s' h' => ?_) (fun _ _ _ h' => h') _ _ h
    cases f with
    | next => exact execs_app0 h'
    | ret v => exact h'
    | brk => exact h'
    | cont => exact h'
/-- one block behind another -/
def tSeqS (t u : TS) : TS := fun D σ H => t { D with nx := u D } σ H
theorem pss_app {X : Cx} {B M : List Stmt} {t u : TS} (h1 : PSs X B t) (h2 : PSs X M u) : PSs X (B ++ M) (tSeqS t u) := by
  refine ⟨fun pins s σ H D I h => ?_⟩
  have a := h1.run pins s σ H { D with nx := u D } I h
  intro G p hG
  refine execs_app0 ?_
  refine PySem.Sem.wp_mono _ G _ (fun f p' s' h' => ?_) (fun _ _ _ h' => h') _ _ (a G p hG)
  cases f with
  | next =>
    obtain ⟨σ', H', I', q⟩ := h'
    exact h2.run pins s' σ' H' D I' q G p' hG
  | ret v => exact h'
  | brk => exact h'
  | cont => exact h'
/-! ### x[k].append(a), a a name or a constant -/
/-- an argument that only reads these slots -/
def Calm1 (t : TE) (Js : List Nat) : Prop := ∀ σ H Q, (∀ j ∈ Js, ∃ w, σ[j]? = some (some w)) → (∀ w, Q w H) → t σ H Q
theorem calm_var {i : Nat} {Js : List Nat} (h : i ∈ Js) : Calm1 (tVar i) Js := fun σ H Q hs q => by
  obtain ⟨w, hw⟩ := hs i h
  exact ⟨w, hw, q w⟩
theorem calm_c {v : V} {Js : List Nat} : Calm1 (tC v) Js := fun σ H Q _ q => q v
/-- what the mutations leave -/
structure At (K : PySem.W.Frag) (i : Nat) (k : Int) (σ : St) (H : Hp) (p : Addr) : Prop where
  t : ∃ t vs, σ[i]? = some (some (.ref t)) ∧ SqT K H t vs ∧ atI vs k = some (.ref p)
def tAp (K : PySem.W.Frag) (i : Nat) (k : Int) (Js : List Nat) (n : Nat) : TS := fun D σ H => ∃ p ws, At K i k σ H p ∧ H p = some (.lst ws) ∧ ws.length + n ≤ 16777216 ∧ (∀ j ∈ Js, ∃ w, σ[j]? = some (some w)) ∧
  ∀ H', (∀ q, q ≠ p → H' q = H q) → (∃ ws', H' p = some (.lst ws') ∧ ws'.length = ws.length + n) → D.nx σ H'
theorem sqT_upd {K : PySem.W.Frag} {H : Hp} {t p : Addr} {vs ws ws' : List V} (h : SqT K H t vs) (hp : H p = some (.lst ws)) : SqT K (L2.upd H p (.lst ws')) t vs := by
  rcases h with (h | ⟨o, h⟩) | h
  · exact .inl (.inl (by rw [upd_ne (fun e => by subst e; rw [hp] at h; cases h)]; exact h))
  · exact .inl (.inr ⟨o, by rw [upd_ne (fun e => by subst e; rw [hp] at h; cases h)]; exact h⟩)
  · exact .inr h
section
variable {X : Cx} {Γ : Gm} {i : Nat} {k : Int} {Js : List Nat} {x a : Expr} {ta : TE} {pos apos cpos spos kpos : Pos} {j : Option Str}
theorem ps_ap1 (ho : PE X x (tVar i)) (ha : PE X a ta) (hc : Calm1 ta Js) (hk : PE X b (tC (.int k))) (hpl : PlainIx b)
    (hbase : attributeBase (.Subscript x b spos) "append" X.env (eval (.Subscript x b spos) X.env) = eval (.Subscript x b spos) X.env := by rfl)
    (hfew : ((backTo cpos (starEach [a] X.env)).all (fun x => !x.1) && (backToKw cpos (keywordEach [] X.env)).all (fun x => x.1.isSome)
      && decide (([a] : List Expr).length + ([] : List Keyword).length + (if ([] : List Keyword).isEmpty then 0 else 1) < 30)) = true := by rfl)
    (hline : (apos.endLine == cpos.line) = true := by rfl) (hs : starEach [a] X.env = (false, eval a X.env) :: starEach [] X.env := by rfl) (hplain : (backTo cpos (starEach [] X.env)).any (·.1) = false := by rfl)
    (hsw : swapsWith (.Call (.Attribute (.Subscript x b spos) "append" apos) [a] [] cpos) none pos.line X.env = pure false := by rfl) :
    PS X (.Expr (.Call (.Attribute (.Subscript x b spos) "append" apos) [a] [] cpos) pos) (tAp X.K i k Js 1) :=
  psImp (ps_expr (pe_bm PySem.F.plainAttrs_list PySem.F.slot_list_append PySem.F.type_list_append mt_append (pe_ix ix_seq ho hk hpl) (pa_cons ha pa_nil hs) hbase hfew hline hs hplain) hsw) fun D σ H ⟨p, ws, ⟨t, vs, h1, h2, h3⟩, h4, h5, h6, h7⟩ => by
    refine ⟨.ref t, h1, .inr (.inl ⟨t, vs, k, .ref p, rfl, rfl, h2, h3, .inl ⟨rfl, ws, .inl (.inl h4)⟩, hc σ H _ h6 fun w => ⟨p, ws, w, rfl, rfl, h4, by rw [sizeLine_eq]; omega, ?_⟩⟩)⟩
    exact h7 _ (fun q hq => upd_ne hq) ⟨_, upd_same, by simp⟩
theorem pss_ap1 {st : Stmt} (h : PS X st (tAp X.K i k Js 1)) : PSs X [st] (tAp X.K i k Js 1) := pss_one h
theorem pss_apS {st : Stmt} {rest : List Stmt} {n : Nat} (h : PS X st (tAp X.K i k Js 1)) (h2 : PSs X rest (tAp X.K i k Js n)) : PSs X (st :: rest) (tAp X.K i k Js (n + 1)) :=
  pssImp (pss_cons h h2) fun D σ H ⟨p, ws, ⟨t, vs, h1, h2, h3⟩, h4, h5, h6, h7⟩ => by
    refine ⟨p, ws, ⟨t, vs, h1, h2, h3⟩, h4, by omega, h6, fun H' e1 ⟨ws', e2, e3⟩ => ?_⟩
    have e : H' = L2.upd H p (.lst ws') := by
      funext q
      by_cases hq : q = p
      · subst hq; rw [upd_same, e2]
      · rw [upd_ne hq, e1 q hq]
    refine ⟨p, ws', ⟨t, vs, h1, by rw [e]; exact sqT_upd h2 h4, h3⟩, e2, by omega, h6, fun H2 e4 ⟨ws2, e5, e6⟩ => ?_⟩
    exact h7 H2 (fun q hq => by rw [e4 q hq, e1 q hq]) ⟨ws2, e5, by omega⟩
end
/-! ### the whole -/
section
variable {X : Cx} {Γ Γ' : Gm} {S : SC} {W : WE} {i k n : Nat} {x : Str} {e : Expr} {B M : List Stmt} {ev : Ev} {eb : Es} {As Ls Ks Js : List Nat} {pos pos' : Pos}
theorem rep_get {K : PySem.W.Frag} {mg : Str → Option Value} {F : Hp} {ds us : List D} {v : V} {k : Nat} (r : rep K mg F (.tup ds) v) (h : ds[k]? = some (.lst us)) : ∃ t vs p ws, v = .ref t ∧ SqT K F t vs ∧ atI vs (k : Nat) = some (.ref p) ∧ F p = some (.lst ws) ∧ ws.length = us.length := by
  simp only [rep] at r
  obtain ⟨t, vs, e, h1, h2⟩ := r
  obtain ⟨w, h3, h4⟩ := reps_get h2 h
  simp only [rep] at h4
  obtain ⟨p, ws, rfl, h5, h6⟩ := h4
  refine ⟨t, vs, p, ws, e, h1, ?_, h5, reps_length h6⟩
  have hk : k < vs.length := by
    rcases Nat.lt_or_ge k vs.length with q | q
    · exact q
    · rw [List.getElem?_eq_none q] at h3; cases h3
  unfold atI ixN
  rw [if_pos (by omega), if_pos (by omega)]
  simpa using h3
theorem vss_fresh (hN : X.N.Nodup) (hi : X.N[i]? = some x) (hx : Loc X.env.scope x) (h1 : VE X (List.replicate Γ.length .brw) (List.replicate Γ.length .brw) W e .fz ev) (h2 : VSs X (List.replicate Γ.length .fz) Γ' ⟨[], As, [], .fz⟩ W B eb) (h3 : PSs X M (tAp X.K i (k : Nat) Js n))
    (hz : ((i :: As).all fun j => S.As.contains j && match Γ[j]? with | some .fz => true | _ => false) = true) (hiA : As.contains i = false) (hK : (Ks.all fun j => As.contains j) = true) (hio : ∀ j q, (j, q) ∈ S.ios → Γ[j]? = some (.io q))
    (hs : swapsWith e (some (.Name x pos')) pos.line X.env = pure false := by rfl) (hf : X.fn x = true ∨ X.env.scope.names.lookup x = some .local := by first | exact .inl rfl | exact .inr rfl | assumption) :
    VSs X Γ Γ S W (.Assign [.Name x pos'] e pos :: (B ++ M)) (sFr i As Ls Ks ev eb k n Js) :=
  pssImp (pss_cons (ps_set hN hi hx h1 hs hf) (pss_app h2 h3)) fun D σ H ⟨ρ, F, r, q⟩ => by
    have zf : ∀ j ∈ i :: As, Γ[j]? = some .fz ∧ j ∈ S.As := fun j hj => by
      have := List.all_eq_true.mp hz j hj
      rw [Bool.and_eq_true] at this
      refine ⟨?_, by simpa using this.1⟩
      have h := this.2
      split at h
      · assumption
      · cases h
    have iA : i ∉ As := by simpa using hiA
    have lr := r.lr
    have lg := r.lg
    have q := Res.sat_bind.mp q
    cases hb : putL Ls ρ (ρ.map fun _ => none) with
    | bad => rw [hb] at q; exact q.elim
    | exn x =>
      exfalso
      have : ∀ {js : List Nat} {e : Env} {x : Exn}, putL js ρ e ≠ .exn x := fun {js} => by
        induction js with
        | nil => intro e x h; cases h
        | cons j js ih =>
          intro e x h
          unfold putL at h
          rcases gv_cases ρ j with ⟨d, e1, _⟩ | e1
          · rw [e1] at h
            simp only [Res.bind_ok] at h
            split at h
            · exact ih h
            · cases h
          · rw [e1] at h; cases h
      exact this hb
    | ok ρb =>
      rw [hb] at q
      obtain ⟨bl, bs⟩ := putL_spec hb
      rw [List.length_map] at bl
      have q : ((noexn (ev ρb)).bind _).sat _ _ := q
      have q := noexn_sat (E' := exW W (List.replicate Γ.length .brw) ρb σ H (noL H)) (Res.sat_bind.mp q)
      -- borrowed from a heap without lists
      have nob : ∀ {ρ0 : Env} {σ0 : St} {m : Md} {n0 : Nat}, m.mut = false → ∀ p, ¬ (Own (List.replicate n0 m) ρ0 σ0).o p := fun {ρ0 σ0 m n0} hm p ⟨j, m', d, g1, g2, _⟩ => by
        rw [List.getElem?_replicate] at g1
        split at g1
        · cases g1; rw [hm] at g2; cases g2
        · cases g1
      have rb : Rel X.K X.mg (List.replicate Γ.length .brw) ρb σ H (noL H) := ⟨by rw [bl, lr], by rw [List.length_replicate, lg], fun j m d g1 g2 => (by
        rw [List.getElem?_replicate] at g1
        split at g1
        · cases g1
          rcases bs j d g2 with z | ⟨z, hf⟩
          · rw [List.getElem?_map] at z
            cases hj : ρ[j]? with
            | none => rw [hj] at z; cases z
            | some o => rw [hj] at z; cases z
          · obtain ⟨v, k1, k2⟩ := r.rdd z
            exact ⟨v, k1, k2.brw (nob (m := .brw) rfl) r.sub hf⟩
        · cases g1), fun a b p ha _ => absurd ⟨a, ha⟩ (nob (m := .brw) rfl p), Same.noL⟩
      refine ⟨ρb, noL H, rb, Res.sat_imp q (fun z _ q v H1 F1 e1 r1 vo => ?_) fun _ h => h⟩
      have vo : rep X.K X.mg F1 z.1 v := vo
      have up1 : ∀ p o, H p = some o → H1 p = some o := fun p o h => by
        cases hn : noL H p with
        | none => exact (e1.kp p o h hn (nob (m := .brw) rfl p)).1
        | some o' =>
          have := (noL_some hn).1
          rw [h] at this; cases this
          exact e1.sh _ _ (e1.sf _ _ hn)
      have fresh : ∀ p ws, F1 p = some (.lst ws) → H p = none := fun p ws h => by
        cases hp : H p with
        | none => rfl
        | some o =>
          exfalso
          cases hn : noL H p with
          | none =>
            have := (e1.kp p o hp hn (nob (m := .brw) rfl p)).2
            rw [h] at this; cases this
          | some o' =>
            have := e1.sf _ _ hn
            rw [h] at this; cases this
            exact (noL_some hn).2 _ rfl
      -- everything that stood is frozen
      have q := Res.sat_bind.mp q
      let F2 : Hp := fun p => match H p with | some o => some o | none => F1 p
      have f1 : Same F1 F2 := fun p o h => by
        show (match H p with | some o => some o | none => F1 p) = _
        cases hp : H p with
        | none => exact h
        | some o' =>
          have a := up1 p o' hp
          have b := e1.sh _ _ h
          rw [a] at b; exact b
      have f2 : Same H F2 := fun p o h => by
        show (match H p with | some o => some o | none => F1 p) = _
        rw [h]
      have f3 : Same F2 H1 := fun p o h => by
        have h : (match H p with | some o => some o | none => F1 p) = some o := h
        cases hp : H p with
        | none => rw [hp] at h; exact e1.sh _ _ h
        | some o' => rw [hp] at h; cases h; exact up1 p _ hp
      have l1 : i < ρ.length := by
        have := (zf i List.mem_cons_self).1
        have := (List.getElem?_eq_some_iff.mp this).1
        omega
      have rf : Rel X.K X.mg (List.replicate Γ.length .fz) (ρ.set i (some z.1)) (σ.set i (some v)) H1 F2 := ⟨by simp only [List.length_set]; exact lr, by rw [List.length_replicate, List.length_set, lg], fun j m d g1 g2 => (by
        rw [List.getElem?_replicate] at g1
        split at g1
        · cases g1
          rcases set_get g2 with ⟨a, b, _⟩ | ⟨a, b⟩
          · cases b; subst a
            exact ⟨v, getset (by omega), rep_mono f1 vo⟩
          · obtain ⟨w, k1, k2⟩ := r.rdd b
            exact ⟨w, by rw [List.getElem?_set_ne a]; exact k1, rep_mono f2 (k2.all r.sub)⟩
        · cases g1), fun a b p ha _ => absurd ⟨a, ha⟩ (nob (m := .fz) rfl p), f3⟩
      have keepI : Keep (i :: As) σ (σ.set i (some v)) := Keep.set List.mem_cons_self
      have q := noexn_sat (E' := exWS W (List.replicate Γ.length .fz) As (ρ.set i (some z.1)) (σ.set i (some v)) H1 F2) q
      refine ⟨ρ.set i (some z.1), F2, rf, Res.sat_imp q (fun fl _ q => ?_) fun _ h => h⟩
      have up2 : ∀ {O' : Ft} {H2 F2' : Hp}, Evo (Own (List.replicate Γ.length .fz) (ρ.set i (some z.1)) (σ.set i (some v))) H1 F2 O' H2 F2' → ∀ p o, H1 p = some o → H2 p = some o := fun {O' H2 F2'} e2 p o h => by
        cases hn : F2 p with
        | none => exact (e2.kp p o h hn (nob (m := .fz) rfl p)).1
        | some o' =>
          have := f3 _ _ hn
          rw [h] at this; cases this
          exact e2.sh _ _ (e2.sf _ _ hn)
      cases fl with
      | brk _ => exact q.elim
      | cont _ => exact q.elim
      | ret d ρ' =>
        have q : (if scaD d = true then _ else _ : Res Fl).sat _ _ := q
        split at q
        · rename_i hd
          intro w σ' H2 F2' Γr e2 r2 _ rv
          have rv : rep X.K X.mg F2' d w := rv
          obtain ⟨ra, ea, _⟩ := r.scope (Z := i :: As) (σ2 := σ) (ρ3 := wipeE ρ (i :: As)) (H2 := H2) (fun j hj => (zf j hj).1) Keep.refl (fun p o h => up2 e2 p o (up1 p o h)) wipeE_len fun j d h => .inl (wipeE_get h)
          have nc : cellD d = true → False := fun h => by cases d <;> first | (cases h; done) | (cases hd; done)
          refine q w σ H2 F Γ ea ra hio ?_
          have rs := rep_scal (F' := F) hd rv
          unfold RetV
          split
          · exact ⟨by unfold Cell; rw [if_neg fun h => nc h]; exact rs, fun h => (nc h).elim⟩
          · exact rs
        · exact q.elim
      | next ρ2 =>
        have q := Res.sat_bind.mp q
        intro σ2 H2 F2' e2 k2 r2
        cases hk : putK Ks ρ2 (wipeE ρ (i :: As)) with
        | bad => rw [hk] at q; exact q.elim
        | exn x =>
          exfalso
          have : ∀ {js : List Nat} {e : Env} {x : Exn}, putK js ρ2 e ≠ .exn x := fun {js} => by
            induction js with
            | nil => intro e x h; cases h
            | cons j js ih =>
              intro e x h
              unfold putK at h
              rcases gv_cases ρ2 j with ⟨d, e1, _⟩ | e1
              · rw [e1] at h
                simp only [Res.bind_ok] at h
                split at h
                · exact ih h
                · cases h
              · rw [e1] at h; cases h
          exact this hk
        | ok ρ3 =>
          rw [hk] at q
          obtain ⟨l3, s1, s2⟩ := putK_spec hk
          have q := Res.sat_bind.mp q
          cases hset : isSet Js ρ3 with
          | bad => rw [hset] at q; exact q.elim
          | exn x =>
            exfalso
            have : ∀ {js : List Nat} {x : Exn}, isSet js ρ3 ≠ .exn x := fun {js} => by
              induction js with
              | nil => intro x h; cases h
              | cons j js ih =>
                intro x h
                unfold isSet at h
                rcases gv_cases ρ3 j with ⟨d, e1, _⟩ | e1
                · rw [e1] at h; exact ih h
                · rw [e1] at h; cases h
            exact this hset
          | ok u =>
            rw [hset] at q
            have q := Res.sat_bind.mp q
            cases hg : getL z.1 k with
            | bad => rw [hg] at q; exact q.elim
            | exn x =>
              unfold getL at hg
              split at hg
              · split at hg <;> cases hg
              · cases hg
            | ok us =>
              rw [hg] at q
              have q : (if us.length + n ≤ 16777216 then _ else _ : Res Fl).sat _ _ := q
              split at q
              · rename_i hlen
                have fin := q
                obtain ⟨ds, ed, hd⟩ : ∃ ds, z.1 = .tup ds ∧ ds[k]? = some (.lst us) := by
                  unfold getL at hg
                  split at hg
                  · rename_i ds e
                    refine ⟨ds, e, ?_⟩
                    split at hg
                    · rename_i us' e2
                      cases hg; exact e2
                    · cases hg
                  · cases hg
                rw [ed] at vo
                obtain ⟨t, vs, p, ws, rfl, t1, t2, t3, t4⟩ := rep_get vo hd
                have hp := fresh p ws t3
                have fp : F p = none := by
                  cases h : F p with
                  | none => rfl
                  | some o => have := r.sub _ _ h; rw [hp] at this; cases this
                have kp2 : Keep (i :: As) σ σ2 := keepI.trans (k2.sub fun j hj => List.mem_cons_of_mem _ hj)
                obtain ⟨ra, ea, oa⟩ := r.scope (Z := i :: As) (ρ3 := ρ3) (fun j hj => (zf j hj).1) kp2 (fun p o h => up2 e2 p o (up1 p o h)) (by rw [l3, wipeE_len]) fun j d h => by
                  by_cases hj : j ∈ Ks
                  · obtain ⟨a, b⟩ := s2 j d hj h
                    obtain ⟨w, w1, w2⟩ := r2.rdd a
                    have hjA : j ∈ As := by simpa using List.all_eq_true.mp hK j hj
                    refine .inr ⟨List.mem_cons_of_mem _ hjA, w, w1, ?_⟩
                    unfold Rdd at w2
                    have nc : cellD d = true → False := fun h => by cases d <;> first | (cases h; done) | (cases b; done)
                    rw [if_neg fun h => nc h] at w2
                    exact rep_scal b w2
                  · rw [s1 j hj] at h
                    exact .inl (wipeE_get h)
                have h2p : H2 p = some (.lst ws) := e2.sh _ _ (e2.sf _ _ (f1 _ _ t3))
                refine ⟨p, ws, ⟨t, vs, ?_, Same.sqT e2.sh (Same.sqT e2.sf (Same.sqT f1 t1)), t2⟩, h2p, by omega, fun j hj => ?_, fun H' a1 ⟨ws', a2, _⟩ => ?_⟩
                · rw [k2.2 i iA]; exact getset (by omega)
                · obtain ⟨d, hd⟩ := isSet_spec hset j hj
                  obtain ⟨w, w1, _⟩ := ra.rdd hd
                  exact ⟨w, w1⟩
                · have eH : H' = L2.upd H2 p (.lst ws') := by
                    funext q
                    by_cases hq : q = p
                    · subst hq; rw [upd_same, a2]
                    · rw [upd_ne hq, a1 q hq]
                  subst eH
                  refine fin σ2 _ F (ea.updNew hp fp) (kp2.sub fun j hj => (zf j hj).2) (ra.side fp (fun z => ?_) fun j z => ?_)
                  · obtain ⟨o, ho, _⟩ := Own.there r (oa p z)
                    rw [hp] at ho; cases ho
                  · obtain ⟨o, ho⟩ := r.brwThere j p (ea.ob j p z)
                    rw [hp] at ho; cases ho
              · exact q.elim
end
end VL
namespace VL
open PySem PySem.Spec PyProof.Rows L2
section
variable {X : Cx} {Γ Γ' Γ1 Γ2 : Gm} {S : SC} {W : WE} {i k n : Nat} {x : Str} {e : Expr} {sts l : List Stmt} {ev : Ev} {eb e1 e2 : Es} {As Ls Ks Js : List Nat} {pos pos' : Pos}
theorem vss_freshN (b : Nat) (hN : X.N.Nodup) (hi : X.N[i]? = some x) (hx : Loc X.env.scope x) (h1 : VE X (List.replicate Γ.length .brw) (List.replicate Γ.length .brw) W e .fz ev) (h2 : VSs X (List.replicate Γ.length .fz) Γ' ⟨[], As, [], .fz⟩ W (sts.take b) eb) (h3 : PSs X (sts.drop b) (tAp X.K i (k : Nat) Js n))
    (hz : ((i :: As).all fun j => S.As.contains j && match Γ[j]? with | some .fz => true | _ => false) = true) (hiA : As.contains i = false) (hK : (Ks.all fun j => As.contains j) = true) (hio : ∀ j q, (j, q) ∈ S.ios → Γ[j]? = some (.io q))
    (hs : swapsWith e (some (.Name x pos')) pos.line X.env = pure false := by rfl) (hf : X.fn x = true ∨ X.env.scope.names.lookup x = some .local := by first | exact .inl rfl | exact .inr rfl | assumption) :
    VSs X Γ Γ S W (.Assign [.Name x pos'] e pos :: sts) (sFr i As Ls Ks ev eb k n Js) := by
  have := vss_fresh (Ls := Ls) (B := sts.take b) (M := sts.drop b) hN hi hx h1 h2 h3 hz hiA hK hio hs hf
  rwa [List.take_append_drop] at this
/-- a block in two parts -/
theorem vss_parts (n : Nat) (h1 : VSs X Γ Γ1 S W (l.take n) e1) (h2 : VSs X Γ1 Γ2 S W (l.drop n) e2) : VSs X Γ Γ2 S W l (sSeq e1 e2) := by
  have : VSs X Γ Γ2 S W (l.take n ++ l.drop n) (sSeq e1 e2) := pssImp (pss_app h1 h2) fun D σ H ⟨ρ, F, r, q⟩ => ⟨ρ, F, r, Res.sat_imp (Res.sat_bind.mp q) (fun fl _ q => by
    cases fl with
    | next ρ' => exact fun σ' H' F' ee k r1 => ⟨ρ', F', r1, Res.sat_imp q (fun fl2 _ q => q.evo ee k) fun _ h => h.evo ee k⟩
    | brk ρ' => exact q
    | cont ρ' => exact q
    | ret d ρ' => exact q) fun _ h => h⟩
  rwa [List.take_append_drop] at this
theorem calm_neg {i : Int} {Js : List Nat} : Calm1 (tUn (rU fun i => .int (-i)) (tC (.int i))) Js := fun σ H Q _ q => ⟨i, rfl, q _⟩
end
end VL

set_option Elab.async false
set_option linter.all false
set_option maxRecDepth 100000
/-! VM: mirrors: what a def computes, by names in the place of slots; how an evaluator follows its mirror (Sim). -/
namespace VL
open PySem PySem.Spec PyProof.Rows L2

/-! ### steps of a mirror -/
def toB : D → Res Bool
  | .bl b => .ok b
  | _ => .bad
def toI : D → Res Int
  | .int i => .ok i
  | _ => .bad
def toL : D → Res (List D)
  | .lst l => .ok l
  | _ => .bad
def ckB (b : Bool) : Res Unit := if b = true then .ok () else .bad
def nc (d : D) : Res Unit := if cellD d = true then .bad else .ok ()
def lenG (l : List D) : Res Unit := if l.length ≤ 16777216 then .ok () else .bad
def enumR : D → Res (List D)
  | .lst l => .ok (enumD 0 l)
  | .str l => .ok (enumD 0 (l.map fun c => .str [c]))
  | _ => .bad
def exF (cs : List String) (f : String) : D → Res D
  | .exc c fs => if cs.contains c = true then opt (lookF f fs) else .bad
  | _ => .bad
def exI (tb : List (String × Bool)) : D → Res D
  | .exc c _ => (opt (lookB c tb)).bind fun b => .ok (.bl b)
  | _ => .bad
def setR : D → D → D → Res D
  | .lst l, .int n, d => match ixN l.length n with
    | some j => .ok (.lst (l.set j d))
    | none => .bad
  | _, _, _ => .bad
def getI : D → D → Res Int
  | .lst l, .int n => match atI l n with
    | some (.int x) => .ok x
    | _ => .bad
  | _, _ => .bad
def un2 : D → Res (D × D)
  | .tup [a, b] => .ok (a, b)
  | _ => .bad
def un3 : D → Res (D × D × D)
  | .tup [a, b, c] => .ok (a, b, c)
  | _ => .bad
def un4 : D → Res (D × D × D × D)
  | .tup [a, b, c, d] => .ok (a, b, c, d)
  | _ => .bad
def exnR {α : Type} (c : String) (fs : List String) (ds : List D) : Res α := if ds.length = fs.length then .exn ⟨c, (fs.zip ds).reverse⟩ else .bad
inductive Stp (σ R : Type) where
  | next (s : σ) | brk (s : σ) | ret (v : R)
def forN {σ : Type} : List D → σ → (D → σ → Res σ) → Res σ
  | [], s, _ => .ok s
  | d :: ds, s, f => (f d s).bind fun s' => forN ds s' f
def forB {σ R : Type} : List D → σ → (D → σ → Res (Stp σ R)) → Res (Stp σ R)
  | [], s, _ => .ok (.next s)
  | d :: ds, s, f => (f d s).bind fun r => match r with
    | .next s' => forB ds s' f
    | .brk s' => .ok (.next s')
    | .ret v => .ok (.ret v)
def whileB {σ R : Type} : Nat → σ → (σ → Res Bool) → (σ → Res (Stp σ R)) → Res (Stp σ R)
  | 0, _, _, _ => .bad
  | n + 1, s, t, f => (t s).bind fun b => if b = true then (f s).bind fun r => match r with
    | .next s' => whileB n s' t f
    | .brk s' => .ok (.next s')
    | .ret v => .ok (.ret v)
  else .ok (.next s)
def aftF {σ R : Type} (r : Stp σ R) (k : σ → Res R) : Res R := match r with
  | .next s => k s
  | .brk s => k s
  | .ret v => .ok v
def aftL {σ τ R : Type} (r : Stp σ R) (k : σ → Res (Stp τ R)) : Res (Stp τ R) := match r with
  | .next s => k s
  | .brk s => k s
  | .ret v => .ok (.ret v)
def tryM {σ R : Type} (cs : List String) (m : Res (Stp σ R)) (h : D → Res (Stp σ R)) : Res (Stp σ R) := match m with
  | .ok a => .ok a
  | .exn x => if cs.contains x.cls = true then match h (.exc x.cls x.fs) with
      | .ok (.next s) => .ok (.next s)
      | .ok (.ret v) => .ok (.ret v)
      | _ => .bad
    else .bad
  | .bad => .bad
def mMap : List D → (D → Res D) → Res (List D)
  | [], _ => .ok []
  | d :: ds, f => (noexn (f d)).bind fun y => (mMap ds f).bind fun ys => .ok (y :: ys)
def consO : Option D → List D → List D
  | none, l => l
  | some d, l => d :: l
def mFil : List D → (D → Res (Option D)) → Res (List D)
  | [], _ => .ok []
  | d :: ds, f => (noexn (f d)).bind fun y => (mFil ds f).bind fun ys => .ok (consO y ys)
def mMapS {σ : Type} : List D → σ → (D → σ → Res (D × σ)) → Res (List D × σ)
  | [], s, _ => .ok ([], s)
  | d :: ds, s, f => (noexn (f d s)).bind fun y => (mMapS ds y.2 f).bind fun ys => .ok (y.1 :: ys.1, ys.2)
def mFilS {σ : Type} : List D → σ → (D → σ → Res (Option D × σ)) → Res (List D × σ)
  | [], s, _ => .ok ([], s)
  | d :: ds, s, f => (noexn (f d s)).bind fun y => (mFilS ds y.2 f).bind fun ys => .ok (consO y.1 ys.1, ys.2)

/-! ### Sim -/
def Sim {α β : Type} (m : Res α) (r : Res β) (P : α → β → Prop) : Prop := match m with
  | .bad => True
  | .ok a => ∃ b, r = .ok b ∧ P a b
  | .exn x => r = .exn x
section
variable {α β γ δ : Type} {m : Res α} {r : Res β} {P : α → β → Prop} {Q : γ → δ → Prop}
theorem Sim.bind {k : α → Res γ} {f : β → Res δ} (h : Sim m r P) (hk : ∀ a b, P a b → Sim (k a) (f b) Q) : Sim (m.bind k) (r.bind f) Q := by
  cases m with
  | bad => trivial
  | exn x =>
    have h : r = .exn x := h
    subst h; rfl
  | ok a =>
    obtain ⟨b, rfl, p⟩ := h
    exact hk a b p
theorem Sim.bindR {k : α → Res γ} {Q : γ → β → Prop} (h : Sim m r P) (hk : ∀ a b, P a b → Sim (k a) (.ok b) Q) : Sim (m.bind k) r Q := by
  cases m with
  | bad => trivial
  | exn x =>
    have h : r = .exn x := h
    subst h; rfl
  | ok a =>
    obtain ⟨b, rfl, p⟩ := h
    exact hk a b p
theorem Sim.same {k : α → Res γ} {f : α → Res δ} (h : ∀ a, Sim (k a) (f a) Q) : Sim (m.bind k) (m.bind f) Q := by
  cases m with
  | bad => trivial
  | exn x => rfl
  | ok a => exact h a
theorem Sim.ok {a : α} {b : β} (h : P a b) : Sim (.ok a) (.ok b) P := ⟨b, rfl, h⟩
theorem Sim.imp {P' : α → β → Prop} (h : Sim m r P) (i : ∀ a b, P a b → P' a b) : Sim m r P' := by
  cases m with
  | bad => trivial
  | exn x => exact h
  | ok a => obtain ⟨b, e, p⟩ := h; exact ⟨b, e, i a b p⟩
theorem Sim.ite {c : Prop} [Decidable c] {m1 m2 : Res α} {r1 r2 : Res β} (h1 : Sim m1 r1 P) (h2 : Sim m2 r2 P) : Sim (if c then m1 else m2) (if c then r1 else r2) P := by
  split
  · exact h1
  · exact h2
theorem Sim.noexn (h : Sim m r P) : Sim (noexn m) (noexn r) P := by
  cases m with
  | bad => trivial
  | exn x => trivial
  | ok a => obtain ⟨b, rfl, p⟩ := h; exact ⟨b, rfl, p⟩
theorem Sim.to {a : α} (h : Sim m r P) (e : m = .ok a) : ∃ b, r = .ok b ∧ P a b := by subst e; exact h
end
def app (k : Es) (ρ : Env) : Res Fl := k ρ
theorem Sim.app {α : Type} {m : Res α} {k : Es} {ρ : Env} {P : α → Fl → Prop} (h : Sim m (k ρ) P) : Sim m (app k ρ) P := h
def fk (k : Es) : Fl → Res Fl
  | .next ρ => app k ρ
  | x => .ok x

/-! ### the evaluators by steps -/
section
variable {α β γ : Type} {ρ : Env} {d : D}
@[simp] theorem toB_bl (b : Bool) : toB (.bl b) = .ok b := rfl
@[simp] theorem toI_int (b : Int) : toI (.int b) = .ok b := rfl
@[simp] theorem toL_lst (b : List D) : toL (.lst b) = .ok b := rfl
@[simp] theorem ckB_true : ckB true = .ok () := rfl
@[simp] theorem enumR_lst (l : List D) : enumR (.lst l) = .ok (enumD 0 l) := rfl
@[simp] theorem enumR_str (l : List Nat) : enumR (.str l) = .ok (enumD 0 (l.map fun c => .str [c])) := rfl
@[simp] theorem un2_tup (a b : D) : un2 (.tup [a, b]) = .ok (a, b) := rfl
@[simp] theorem un3_tup (a b c : D) : un3 (.tup [a, b, c]) = .ok (a, b, c) := rfl
@[simp] theorem un4_tup (a b c d : D) : un4 (.tup [a, b, c, d]) = .ok (a, b, c, d) := rfl
theorem Res.bind_assoc (m : Res α) (f : α → Res β) (g : β → Res γ) : (m.bind f).bind g = m.bind fun a => (f a).bind g := by cases m <;> rfl
theorem if_ckB {b : Bool} {m : Res α} : (if b = true then m else .bad) = (ckB b).bind fun _ => m := by cases b <;> rfl
theorem if_nc {d : D} {m : Res α} : (if cellD d = true then .bad else m) = (nc d).bind fun _ => m := by unfold nc; cases cellD d <;> rfl
theorem eVarB_q (i : Nat) : eVarB i ρ = (gv ρ i).bind fun d => (nc d).bind fun _ => .ok (d, ρ) := by
  rw [eVarB_ap]; congr 1; funext d; exact if_nc
theorem eUp_q (a : Ev) : eUp a ρ = (a ρ).bind fun r => (nc r.1).bind fun _ => .ok r := by
  unfold eUp; congr 1; funext r; exact if_nc
theorem nc_non' : nc .non = .ok () := rfl
theorem nc_int' (i : Int) : nc (.int i) = .ok () := rfl
theorem nc_bl' (i : Bool) : nc (.bl i) = .ok () := rfl
theorem nc_str' (i : List Nat) : nc (.str i) = .ok () := rfl
theorem nc_tup' (i : List D) : nc (.tup i) = .ok () := rfl
theorem eTB_q (a : Ev) : eTB a ρ = (a ρ).bind fun r => (toB r.1).bind fun b => .ok (b, r.2) := by
  rw [eTB_ap]; congr 1; funext r; cases r.1 <;> rfl
theorem eNeg_q (a : Ev) : eNeg a ρ = (a ρ).bind fun r => (toI r.1).bind fun i => .ok (.int (-i), r.2) := by
  rw [eNeg_ap]; congr 1; funext r; cases r.1 <;> rfl
theorem eNotV_q (a : Ev) : eNotV a ρ = (a ρ).bind fun r => (toB r.1).bind fun b => .ok (.bl (!b), r.2) := by
  rw [eNotV_ap]; congr 1; funext r; cases r.1 <;> rfl
theorem eAndV_q (a b : Ev) : eAndV a b ρ = (a ρ).bind fun r => (toB r.1).bind fun c => if c = true then b r.2 else .ok (.bl false, r.2) := by
  rw [eAndV_ap]; congr 1; funext r; cases r.1 <;> first | rfl | (rename_i b; cases b <;> rfl)
theorem eOrV_q (a b : Ev) : eOrV a b ρ = (a ρ).bind fun r => (toB r.1).bind fun c => if c = true then .ok (.bl true, r.2) else b r.2 := by
  rw [eOrV_ap]; congr 1; funext r; cases r.1 <;> first | rfl | (rename_i b; cases b <;> rfl)
theorem runI_q (f : Ev) : runI (some f) ρ = (f ρ).bind fun r => (toI r.1).bind fun i => .ok (some i, r.2) := by
  rw [runI_s]; congr 1; funext r; cases r.1 <;> rfl
theorem eTup_q (as : List Arg) : eTup as ρ = (Arg.runs as ρ).bind fun p => (Arg.fins as p.1 p.2).bind fun ds => (lenG ds).bind fun _ => .ok (.tup ds, p.2) := by
  rw [eTup_ap]; congr 1; funext p; congr 1; funext ds; unfold lenG; split <;> rfl
theorem eLst_q (as : List Arg) : eLst as ρ = (Arg.runs as ρ).bind fun p => (Arg.fins as p.1 p.2).bind fun ds => (lenG ds).bind fun _ => .ok (.lst ds, p.2) := by
  rw [eLst_ap]; congr 1; funext p; congr 1; funext ds; unfold lenG; split <;> rfl
theorem eChain_q (f f' : D → D → Option D) (oa ob oc : Opd) : eChain f f' oa ob oc ρ = (oa.run ρ).bind fun p => (ob.run p.2).bind fun s => (oa.fin p.1 s.2).bind fun dx => (ob.fin s.1 s.2).bind fun dy => (opt (f dx dy)).bind fun d => (toB d).bind fun c =>
    if c = true then (oc.run s.2).bind fun t => (ob.fin s.1 t.2).bind fun dy => (oc.fin t.1 t.2).bind fun dz => (opt (f' dy dz)).bind fun d => .ok (d, t.2) else .ok (.bl false, s.2) := by
  rw [eChain_ap]; congr 1; funext p; congr 1; funext s; congr 1; funext dx; congr 1; funext dy; congr 1; funext d
  cases d <;> first | rfl | (rename_i b; cases b <;> rfl)
theorem eFn_q (pms : List PM) (f : Fe) (as : List Arg) : eFn pms f as ρ = (Arg.runs as ρ).bind fun p => (Arg.fins as p.1 p.2).bind fun ds => (ckB (ioCells pms ds)).bind fun _ => (f ds).bind fun r => .ok (r.1, setOuts (ioSl as) r.2 p.2) := by
  rw [eFn_ap]; congr 1; funext p; congr 1; funext ds; exact if_ckB
theorem eMut_q (i : Nat) (f : List D → List D → Option (List D × D)) (as : List Arg) : eMut i f as ρ = (gv ρ i).bind fun d0 => (toL d0).bind fun _ => (Arg.runs as ρ).bind fun p => (Arg.fins as p.1 p.2).bind fun ds => (gv p.2 i).bind fun d => (toL d).bind fun l => (opt (f l ds)).bind fun r => .ok (r.2, p.2.set i (some (.lst r.1))) := by
  rw [eMut_ap]; congr 1; funext d0
  cases d0 <;> first | rfl | skip
  simp only [isLst_lst, if_true, toL_lst, Res.bind_ok]
  congr 1; funext p; congr 1; funext ds; congr 1; funext d
  cases d <;> rfl
theorem eMth_q (i : Nat) (f : List D → List D → Option D) (as : List Arg) : eMth i f as ρ = (gv ρ i).bind fun d0 => (toL d0).bind fun _ => (Arg.runs as ρ).bind fun p => (Arg.fins as p.1 p.2).bind fun ds => (gv p.2 i).bind fun d => (toL d).bind fun l => (opt (f l ds)).bind fun r => .ok (r, p.2) := by
  show ((gv ρ i).bind fun d0 => if isLst d0 = true then _ else _) = _
  congr 1; funext d0
  cases d0 <;> first | rfl | skip
  simp only [isLst_lst, if_true, toL_lst, Res.bind_ok]
  congr 1; funext p; congr 1; funext ds; congr 1; funext d
  cases d <;> rfl
theorem eXf_q (i : Nat) (cs : List String) (f : String) : eXf i cs f ρ = (gv ρ i).bind fun d => (exF cs f d).bind fun y => .ok (y, ρ) := by
  rw [eXf_ap]; congr 1; funext d
  cases d <;> first | rfl | skip
  unfold exF
  dsimp only
  split <;> rfl
theorem eIsE_q (i : Nat) (tb : List (String × Bool)) : eIsE i tb ρ = (gv ρ i).bind fun d => (exI tb d).bind fun y => .ok (y, ρ) := by
  rw [eIsE_ap]; congr 1; funext d
  cases d <;> first | rfl | skip
  unfold exI
  dsimp only
  rw [Res.bind_assoc]
  congr 1
theorem eEnum_q (f : Ev) : eEnum f ρ = (f ρ).bind fun r => (enumR r.1).bind fun l => .ok (l, r.2) := by
  rw [eEnum_ap]; congr 1; funext r; cases r.1 <;> rfl
def lcIt (vs : List Nat) (tg : Tg) (cond : Et) (elt : Ev) (d : D) (ρ : Env) : Res (Option D × Env) := (opt (bindT tg d ρ)).bind fun ρ1 => (cond ρ1).bind fun c => if c.1 = true then (elt c.2).bind fun r => .ok (some r.1, wipeE r.2 vs) else .ok (none, wipeE c.2 vs)
def accO (acc : List D) : Option D → List D
  | some y => acc ++ [y]
  | none => acc
theorem accO_cons {acc ys : List D} {y : Option D} : accO acc y ++ ys = acc ++ consO y ys := by cases y <;> simp [accO, consO]
theorem lcGo_q {vs : List Nat} {tg : Tg} {cond : Et} {elt : Ev} {ds acc : List D} : lcGo vs tg cond elt (d :: ds) acc ρ = (noexn (lcIt vs tg cond elt d ρ)).bind fun q => lcGo vs tg cond elt ds (accO acc q.1) q.2 := by
  unfold lcIt
  show (opt (bindT tg d ρ)).bind _ = _
  cases h : bindT tg d ρ with
  | none => rfl
  | some ρ1 =>
    simp only [optS, Res.bind_ok]
    cases cond ρ1 with
    | bad => rfl
    | exn x => rfl
    | ok c =>
      simp only [noexn_ok, Res.bind_ok]
      split
      · cases elt c.2 <;> rfl
      · rfl
theorem eLC_q (it : Eit) (vs : List Nat) (tg : Tg) (cond : Et) (elt : Ev) : eLC it vs tg cond elt ρ = (it ρ).bind fun p => (lenG p.1).bind fun _ => (lcGo vs tg cond elt p.1 [] (wipeE p.2 vs)).bind fun r => .ok (.lst r.1, backE p.2 r.2 vs) := by
  unfold eLC
  congr 1; funext p; unfold lenG; split <;> rfl
/-! statements, with what follows -/
variable {k a b : Es}
theorem sq_nil : sSeq sNil k ρ = app k ρ := rfl
theorem sq_pass : sSeq sPass k ρ = app k ρ := rfl
theorem sq_brk : sSeq sBrk k ρ = .ok (.brk ρ) := rfl
theorem sq_cont : sSeq sCont k ρ = .ok (.cont ρ) := rfl
theorem sq_expr (f : Ev) : sSeq (sExpr f) k ρ = (f ρ).bind fun r => app k r.2 := by
  rw [sSeq_ap, sExpr_ap, Res.bind_assoc]; rfl
theorem sq_ret (f : Ev) : sSeq (sRet f) k ρ = (f ρ).bind fun r => .ok (.ret r.1 r.2) := by
  rw [sSeq_ap, sRet_ap, Res.bind_assoc]; rfl
theorem sq_retN : sSeq sRetN k ρ = .ok (.ret .non ρ) := rfl
theorem sq_set (i : Nat) (f : Ev) : sSeq (sSet i f) k ρ = (f ρ).bind fun r => app k (r.2.set i (some r.1)) := by
  rw [sSeq_ap, sSet_ap, Res.bind_assoc]; rfl
theorem sq_aug (i : Nat) (f : D → D → Option D) (fe : Ev) : sSeq (sAug i f fe) k ρ = (gv ρ i).bind fun x => (fe ρ).bind fun r => (opt (f x r.1)).bind fun d => app k (r.2.set i (some d)) := by
  rw [sSeq_ap, sAug_ap, Res.bind_assoc]; congr 1; funext x; rw [Res.bind_assoc]; congr 1; funext r; rw [Res.bind_assoc]; rfl
theorem sq_asg (t : Tg) (f : Ev) : sSeq (sAsg t f) k ρ = (f ρ).bind fun r => (opt (bindT t r.1 r.2)).bind fun ρ' => app k ρ' := by
  rw [sSeq_ap, sAsg_ap, Res.bind_assoc]; congr 1; funext r; rw [Res.bind_assoc]; rfl
theorem sq_seq : sSeq (sSeq a b) k ρ = sSeq a (sSeq b k) ρ := by
  simp only [sSeq_ap, Res.bind_assoc]; congr 1; funext fl; cases fl <;> rfl
theorem sq_if (t : Et) : sSeq (sIf t a b) k ρ = (t ρ).bind fun r => if r.1 = true then app (sSeq a k) r.2 else app (sSeq b k) r.2 := by
  rw [sSeq_ap, sIf_ap, Res.bind_assoc]; congr 1; funext r; split <;> rfl
theorem sq_for (it : Eit) (tg : Tg) (body : Es) : sSeq (sFor it tg body) k ρ = (it ρ).bind fun p => (forL tg body p.1 p.2).bind (fk k) := by
  rw [sSeq_ap, sFor_ap, Res.bind_assoc]; congr 1
theorem sq_while (n : Nat) (t : Et) (body : Es) : sSeq (sWhile n t body) k ρ = (whileL t body n ρ).bind (fk k) := by
  rw [sSeq_ap]; unfold sWhile; congr 1
theorem sq_try (i : Nat) (ws : List Nat) (cs : List String) : sSeq (sTry i ws cs a b) k ρ = (sTry i ws cs a b ρ).bind (fk k) := by
  rw [sSeq_ap]; congr 1
theorem sRaise_q (c : String) (fs : List String) (as : List Arg) : sRaise c fs as ρ = (Arg.runs as ρ).bind fun p => (Arg.fins as p.1 p.2).bind fun ds => exnR c fs ds := by
  rw [sRaise_ap]; rfl
theorem exnR_bind {c : String} {fs : List String} {ds : List D} {f : α → Res β} : (exnR c fs ds).bind f = exnR c fs ds := by unfold exnR; split <;> rfl
theorem sq_raise (c : String) (fs : List String) (as : List Arg) : sSeq (sRaise c fs as) k ρ = (Arg.runs as ρ).bind fun p => (Arg.fins as p.1 p.2).bind fun ds => exnR c fs ds := by
  rw [sSeq_ap, sRaise_q, Res.bind_assoc]; congr 1; funext p; rw [Res.bind_assoc]; congr 1; funext ds; exact exnR_bind
theorem sPar_q (i j : Nat) (x y : Arg) : sPar i j [x, y] ρ = (Arg.runs [x, y] ρ).bind fun p => (x.fin (p.1.getD 0 none) p.2).bind fun u => (y.fin (p.1.getD 1 none) p.2).bind fun v => .ok (.next ((p.2.set i (some u)).set j (some v))) := by
  rw [sPar_ap]
  simp only [Arg.runs_cons, Arg.runs_nil, Res.bind_assoc, Res.bind_ok, Arg.fins_cons, Arg.fins_nil, List.getD_cons_zero, List.getD_cons_succ]
theorem sq_par (i j : Nat) (x y : Arg) : sSeq (sPar i j [x, y]) k ρ = (Arg.runs [x, y] ρ).bind fun p => (x.fin (p.1.getD 0 none) p.2).bind fun u => (y.fin (p.1.getD 1 none) p.2).bind fun v => app k ((p.2.set i (some u)).set j (some v)) := by
  rw [sSeq_ap, sPar_q]; simp only [Res.bind_assoc, Res.bind_ok]; rfl
theorem sSetIx_q (i : Nat) (fi fe : Ev) : sSetIx i fi fe ρ = (fe ρ).bind fun r => (gv r.2 i).bind fun _ => (fi r.2).bind fun n => (gv n.2 i).bind fun d => (setR d n.1 r.1).bind fun d' => .ok (.next (n.2.set i (some d'))) := by
  unfold sSetIx; congr 1; funext r; congr 1; funext _; congr 1; funext n; congr 1; funext d
  cases d <;> first | rfl | skip
  cases h : n.1 <;> first | rfl | skip
  rename_i l z
  dsimp only [setR]
  cases ixN l.length z <;> rfl
theorem sq_setIx (i : Nat) (fi fe : Ev) : sSeq (sSetIx i fi fe) k ρ = (fe ρ).bind fun r => (gv r.2 i).bind fun _ => (fi r.2).bind fun n => (gv n.2 i).bind fun d => (setR d n.1 r.1).bind fun d' => app k (n.2.set i (some d')) := by
  rw [sSeq_ap, sSetIx_q]; simp only [Res.bind_assoc, Res.bind_ok]; rfl
theorem sAugIx_q (i : Nat) (g : Int → Int → Int) (fi fe : Ev) : sAugIx i g fi fe ρ = (gv ρ i).bind fun _ => (fi ρ).bind fun n => (gv n.2 i).bind fun d0 => (getI d0 n.1).bind fun x => (fe n.2).bind fun r => (toI r.1).bind fun y => (gv r.2 i).bind fun d => (setR d n.1 (.int (g x y))).bind fun d' => .ok (.next (r.2.set i (some d'))) := by
  unfold sAugIx; congr 1; funext _; congr 1; funext n; congr 1; funext d0
  cases d0 <;> first | rfl | skip
  cases h : n.1 <;> first | rfl | skip
  dsimp only [getI]
  cases h2 : atI (α := D) _ _ with
  | none => rfl
  | some x =>
    cases x <;> first | rfl | skip
    simp only [Res.bind_ok]
    congr 1; funext r
    cases r.1 <;> first | rfl | skip
    simp only [toI_int, Res.bind_ok]
    congr 1; funext d
    cases d <;> first | rfl | skip
    rename_i l
    dsimp only [setR]
    cases ixN l.length _ <;> rfl
theorem sq_augIx (i : Nat) (g : Int → Int → Int) (fi fe : Ev) : sSeq (sAugIx i g fi fe) k ρ = (gv ρ i).bind fun _ => (fi ρ).bind fun n => (gv n.2 i).bind fun d0 => (getI d0 n.1).bind fun x => (fe n.2).bind fun r => (toI r.1).bind fun y => (gv r.2 i).bind fun d => (setR d n.1 (.int (g x y))).bind fun d' => app k (r.2.set i (some d')) := by
  rw [sSeq_ap, sAugIx_q]; simp only [Res.bind_assoc, Res.bind_ok]; rfl
/-! the last statement of a block -/
theorem sl_if (t : Et) : sIf t a b ρ = (t ρ).bind fun r => if r.1 = true then app a r.2 else app b r.2 := rfl
theorem fk_nil : fk sNil = fun fl => .ok fl := by funext fl; cases fl <;> rfl
theorem bind_fk_nil {r : Res Fl} : r.bind (fk sNil) = r := by rw [fk_nil]; cases r <;> rfl
theorem sl_for (it : Eit) (tg : Tg) (body : Es) : sFor it tg body ρ = (it ρ).bind fun p => (forL tg body p.1 p.2).bind (fk sNil) := by
  rw [sFor_ap]; congr 1; funext p; rw [bind_fk_nil]
theorem sl_while (n : Nat) (t : Et) (body : Es) : sWhile n t body ρ = (whileL t body n ρ).bind (fk sNil) := by rw [bind_fk_nil]; rfl
/-! targets -/
theorem tg_name (i : Nat) : bindT (.name i) d ρ = some (ρ.set i (some d)) := rfl
theorem opt_bind {x : Option α} {f : α → Option β} : opt (x.bind f) = (opt x).bind fun a => opt (f a) := by cases x <;> rfl
theorem tg_2 (s t : Tg) : opt (bindT (.tup [s, t]) d ρ) = (un2 d).bind fun p => (opt (bindT s p.1 ρ)).bind fun ρ1 => opt (bindT t p.2 ρ1) := by
  cases d <;> first | rfl | skip
  rename_i l
  match l with
  | [] => rfl
  | [_] => show opt ((bindT _ _ _).bind fun _ => none) = _; cases bindT s _ ρ <;> rfl
  | [x, y] =>
    show opt ((bindT s x ρ).bind fun ρ' => (bindT t y ρ').bind fun ρ2 => some ρ2) = _
    simp only [un2_tup, Res.bind_ok, opt_bind]
    congr 1; funext ρ'; cases bindT t y ρ' <;> rfl
  | x :: y :: _ :: _ =>
    show opt ((bindT s x ρ).bind fun ρ' => (bindT t y ρ').bind fun ρ2 => none) = .bad
    cases bindT s x ρ with
    | none => rfl
    | some ρ' =>
      simp only [Option.bind_some]
      cases bindT t y ρ' <;> rfl
theorem tg_3 (s t u : Tg) : opt (bindT (.tup [s, t, u]) d ρ) = (un3 d).bind fun p => (opt (bindT s p.1 ρ)).bind fun ρ1 => (opt (bindT t p.2.1 ρ1)).bind fun ρ2 => opt (bindT u p.2.2 ρ2) := by
  cases d <;> first | rfl | skip
  rename_i l
  have key : ∀ (l : List D) (f : D → D → D → Res Env), (∀ x y z, l = [x, y, z] → opt (bindTs [s, t, u] l ρ) = f x y z) → (l.length ≠ 3 → opt (bindTs [s, t, u] l ρ) = .bad) → opt (bindT (.tup [s, t, u]) (.tup l) ρ) = (un3 (.tup l)).bind fun p => f p.1 p.2.1 p.2.2 := by
    intro l f h1 h2
    match l with
    | [] => exact h2 (by simp)
    | [_] => exact h2 (by simp)
    | [_, _] => exact h2 (by simp)
    | [x, y, z] => exact h1 x y z rfl
    | _ :: _ :: _ :: _ :: _ => exact h2 (by simp)
  have len : ∀ (ts : List Tg) (l : List D) (ρ : Env), l.length ≠ ts.length → bindTs ts l ρ = none := by
    intro ts
    induction ts with
    | nil => intro l ρ h; cases l with
      | nil => exact absurd rfl h
      | cons _ _ => rfl
    | cons t ts ih =>
      intro l ρ h
      cases l with
      | nil => rfl
      | cons d l =>
        show (bindT t d ρ).bind _ = none
        cases bindT t d ρ with
        | none => rfl
        | some ρ' => exact ih l ρ' (by simpa using h)
  refine key l (fun x y z => (opt (bindT s x ρ)).bind fun ρ1 => (opt (bindT t y ρ1)).bind fun ρ2 => opt (bindT u z ρ2)) ?_ ?_
  · rintro x y z rfl
    show opt ((bindT s x ρ).bind fun ρ' => (bindT t y ρ').bind fun ρ2 => (bindT u z ρ2).bind fun ρ3 => some ρ3) = _
    simp only [opt_bind]
    congr 1; funext ρ'; congr 1; funext ρ2; cases bindT u z ρ2 <;> rfl
  · intro h
    rw [len [s, t, u] l ρ (by simpa using h)]; rfl
end
/-! ### loops -/
section
variable {σ τ R : Type} {RR : R → D → Env → Prop} {P : σ → Env → Prop} {tg : Tg} {b k : Es} {s : σ} {ρ : Env} {items : List D}
/-- what the end of a def, of a loop's turn, of a loop is -/
def QR (RR : R → D → Env → Prop) : R → Fl → Prop := fun v fl => (∃ d ρ, fl = Fl.ret d ρ ∧ RR v d ρ) ∨ ∃ ρ, fl = Fl.next ρ ∧ RR v .non ρ
def QN (P : σ → Env → Prop) : σ → Fl → Prop := fun s fl => ∃ ρ, (fl = .next ρ ∨ fl = .cont ρ) ∧ P s ρ
def QS (RR : R → D → Env → Prop) (P : σ → Env → Prop) : Stp σ R → Fl → Prop
  | .next s, fl => ∃ ρ, (fl = .next ρ ∨ fl = .cont ρ) ∧ P s ρ
  | .brk s, fl => ∃ ρ, fl = .brk ρ ∧ P s ρ
  | .ret v, fl => ∃ d ρ, fl = .ret d ρ ∧ RR v d ρ
def QF (RR : R → D → Env → Prop) (P : σ → Env → Prop) : Stp σ R → Fl → Prop
  | .next s, fl => ∃ ρ, fl = .next ρ ∧ P s ρ
  | .brk _, _ => False
  | .ret v, fl => ∃ d ρ, fl = .ret d ρ ∧ RR v d ρ
theorem sim_forN {f : D → σ → Res σ} (hb : ∀ d s ρ, P s ρ → Sim (f d s) ((opt (bindT tg d ρ)).bind b) (QN P)) : ∀ {items : List D} {s : σ} {ρ : Env}, P s ρ → Sim (forN items s f) (forL tg b items ρ) (fun s fl => ∃ ρ, fl = Fl.next ρ ∧ P s ρ)
  | [], s, ρ, h => ⟨_, rfl, ρ, rfl, h⟩
  | d :: ds, s, ρ, h => by
    show Sim ((f d s).bind fun s' => forN ds s' f) ((opt (bindT tg d ρ)).bind fun ρ1 => (b ρ1).bind _) _
    rw [← Res.bind_assoc]
    refine Sim.bind (hb d s ρ h) fun s' fl q => ?_
    obtain ⟨ρ2, rfl | rfl, q⟩ := q
    · exact sim_forN hb q
    · exact sim_forN hb q
theorem sim_forB {f : D → σ → Res (Stp σ R)} (hb : ∀ d s ρ, P s ρ → Sim (f d s) ((opt (bindT tg d ρ)).bind b) (QS RR P)) : ∀ {items : List D} {s : σ} {ρ : Env}, P s ρ → Sim (forB items s f) (forL tg b items ρ) (QF RR P)
  | [], s, ρ, h => ⟨_, rfl, ρ, rfl, h⟩
  | d :: ds, s, ρ, h => by
    show Sim ((f d s).bind fun r => match r with
      | .next s' => forB ds s' f
      | .brk s' => .ok (.next s')
      | .ret v => .ok (.ret v)) ((opt (bindT tg d ρ)).bind fun ρ1 => (b ρ1).bind _) _
    rw [← Res.bind_assoc]
    refine Sim.bind (hb d s ρ h) fun r fl q => ?_
    cases r with
    | next s' =>
      obtain ⟨ρ2, rfl | rfl, q⟩ := q
      · exact sim_forB hb q
      · exact sim_forB hb q
    | brk s' =>
      obtain ⟨ρ2, rfl, q⟩ := q
      exact ⟨_, rfl, ρ2, rfl, q⟩
    | ret v =>
      obtain ⟨d, ρ2, rfl, q⟩ := q
      exact ⟨_, rfl, d, ρ2, rfl, q⟩
theorem sim_whileB {et : Et} {t : σ → Res Bool} {f : σ → Res (Stp σ R)} (ht : ∀ s ρ, P s ρ → Sim (t s) (et ρ) (fun c q => q.1 = c ∧ P s q.2)) (hb : ∀ s ρ, P s ρ → Sim (f s) (b ρ) (QS RR P)) : ∀ {n : Nat} {s : σ} {ρ : Env}, P s ρ → Sim (whileB n s t f) (whileL et b n ρ) (QF RR P)
  | 0, _, _, _ => trivial
  | n + 1, s, ρ, h => by
    unfold whileB whileL
    refine Sim.bind (ht s ρ h) ?_
    rintro c ⟨c', ρ1⟩ ⟨rfl, h1⟩
    refine Sim.ite ?_ ⟨_, rfl, ρ1, rfl, h1⟩
    refine Sim.bind (hb s ρ1 h1) fun r fl q => ?_
    cases r with
    | next s' =>
      obtain ⟨ρ2, rfl | rfl, q⟩ := q
      · exact sim_whileB ht hb q
      · exact sim_whileB ht hb q
    | brk s' =>
      obtain ⟨ρ2, rfl, q⟩ := q
      exact ⟨_, rfl, ρ2, rfl, q⟩
    | ret v =>
      obtain ⟨d, ρ2, rfl, q⟩ := q
      exact ⟨_, rfl, d, ρ2, rfl, q⟩
theorem sim_aftN {β : Type} {Q : β → Fl → Prop} {m : Res β} {s : σ} {fl : Fl} (h : ∃ ρ : Env, fl = Fl.next ρ ∧ P s ρ) (hk : ∀ ρ, P s ρ → Sim m (k ρ) Q) : Sim m (fk k fl) Q := by
  obtain ⟨ρ, rfl, h⟩ := h
  exact hk ρ h
theorem sim_aftF {g : σ → Res R} {r : Stp σ R} {fl : Fl} (h : QF RR P r fl) (hk : ∀ s ρ, P s ρ → Sim (g s) (k ρ) (QR RR)) : Sim (aftF r g) (fk k fl) (QR RR) := by
  cases r with
  | next s => obtain ⟨ρ, rfl, h⟩ := h; exact hk s ρ h
  | brk s => exact h.elim
  | ret v => obtain ⟨d, ρ, rfl, h⟩ := h; exact ⟨_, rfl, .inl ⟨d, ρ, rfl, h⟩⟩
theorem sim_aftL {P' : τ → Env → Prop} {g : σ → Res (Stp τ R)} {r : Stp σ R} {fl : Fl} (h : QF RR P r fl) (hk : ∀ s ρ, P s ρ → Sim (g s) (k ρ) (QS RR P')) : Sim (aftL r g) (fk k fl) (QS RR P') := by
  cases r with
  | next s => obtain ⟨ρ, rfl, h⟩ := h; exact hk s ρ h
  | brk s => exact h.elim
  | ret v => obtain ⟨d, ρ, rfl, h⟩ := h; exact ⟨_, rfl, d, ρ, rfl, h⟩
theorem sim_try {i : Nat} {ws : List Nat} {cs : List String} {a c : Es} {m : Res (Stp σ R)} {h : D → Res (Stp σ R)} (hm : Sim m (a ρ) (QF RR P)) (hh : ∀ d, Sim (h d) (c ((wipeE ρ ws).set i (some d))) (QF RR fun s ρ' => P s (ρ'.set i none))) :
    Sim (tryM cs m h) (sTry i ws cs a c ρ) (QF RR P) := by
  unfold tryM sTry
  cases m with
  | bad => trivial
  | ok s => obtain ⟨fl, e, q⟩ := hm; rw [e]; exact ⟨_, rfl, q⟩
  | exn x =>
    have hm : a ρ = .exn x := hm
    rw [hm]
    dsimp only
    split
    · rename_i hc
      have := hh (.exc x.cls x.fs)
      cases hx : h (.exc x.cls x.fs) with
      | bad => trivial
      | exn y => trivial
      | ok s =>
        rw [hx] at this
        obtain ⟨fl, e, q⟩ := this
        rw [e]
        cases s with
        | next s => obtain ⟨ρ2, rfl, q⟩ := q; exact ⟨_, rfl, _, rfl, q⟩
        | brk s => exact q.elim
        | ret v => obtain ⟨d, ρ2, rfl, q⟩ := q; exact ⟨_, rfl, _, _, rfl, q⟩
    · trivial
end
/-! ### comprehensions -/
section
variable {σ : Type} {P : σ → Env → Prop} {vs : List Nat} {tg : Tg} {cond : Et} {elt : Ev} {ρ : Env}
theorem sim_filS {f : D → σ → Res (Option D × σ)} (hb : ∀ d s ρ, P s ρ → Sim (f d s) (lcIt vs tg cond elt d ρ) (fun a b => b.1 = a.1 ∧ P a.2 b.2)) : ∀ {items acc : List D} {s : σ} {ρ : Env}, P s ρ → Sim (mFilS items s f) (lcGo vs tg cond elt items acc ρ) (fun a b => b.1 = acc ++ a.1 ∧ P a.2 b.2)
  | [], acc, s, ρ, h => ⟨(acc, ρ), rfl, by simp, h⟩
  | d :: ds, acc, s, ρ, h => by
    rw [lcGo_q]
    refine Sim.bind (Sim.noexn (hb d s ρ h)) ?_
    rintro ⟨y, s'⟩ ⟨y', ρ'⟩ ⟨e, h'⟩
    have e : y' = y := e
    subst e
    have ih := sim_filS hb (items := ds) (acc := accO acc y') h'
    have : lcGo vs tg cond elt ds (accO acc y') ρ' = (lcGo vs tg cond elt ds (accO acc y') ρ').bind .ok := by cases lcGo vs tg cond elt ds (accO acc y') ρ' <;> rfl
    show Sim _ (lcGo vs tg cond elt ds (accO acc y') ρ') _
    rw [this]
    refine Sim.bind ih ?_
    rintro ⟨ys, s2⟩ ⟨l, ρ2⟩ ⟨e, h2⟩
    refine ⟨_, rfl, ?_, h2⟩
    have e : l = (accO acc y') ++ ys := e
    rw [e]
    exact accO_cons
theorem sim_mapS {f : D → σ → Res (D × σ)} (hb : ∀ d s ρ, P s ρ → Sim (f d s) (lcIt vs tg cond elt d ρ) (fun a b => b.1 = some a.1 ∧ P a.2 b.2)) : ∀ {items acc : List D} {s : σ} {ρ : Env}, P s ρ → Sim (mMapS items s f) (lcGo vs tg cond elt items acc ρ) (fun a b => b.1 = acc ++ a.1 ∧ P a.2 b.2)
  | [], acc, s, ρ, h => ⟨(acc, ρ), rfl, by simp, h⟩
  | d :: ds, acc, s, ρ, h => by
    rw [lcGo_q]
    refine Sim.bind (Sim.noexn (hb d s ρ h)) ?_
    rintro ⟨y, s'⟩ ⟨y', ρ'⟩ ⟨e, h'⟩
    have e : y' = some y := e
    subst e
    have ih := sim_mapS hb (items := ds) (acc := acc ++ [y]) h'
    have : lcGo vs tg cond elt ds (acc ++ [y]) ρ' = (lcGo vs tg cond elt ds (acc ++ [y]) ρ').bind .ok := by cases lcGo vs tg cond elt ds (acc ++ [y]) ρ' <;> rfl
    show Sim _ (lcGo vs tg cond elt ds (acc ++ [y]) ρ') _
    rw [this]
    refine Sim.bind ih ?_
    rintro ⟨ys, s2⟩ ⟨l, ρ2⟩ ⟨e, h2⟩
    refine ⟨_, rfl, ?_, h2⟩
    have e : l = (acc ++ [y]) ++ ys := e
    rw [e]; simp
theorem sim_fil {f : D → Res (Option D)} {E : Env} (hb : ∀ d, Sim (f d) (lcIt vs tg cond elt d E) (fun a b => b = (a, E))) : ∀ {items acc : List D}, Sim (mFil items f) (lcGo vs tg cond elt items acc E) (fun a b => b = (acc ++ a, E))
  | [], acc => ⟨(acc, E), rfl, by simp⟩
  | d :: ds, acc => by
    rw [lcGo_q]
    refine Sim.bind (Sim.noexn (hb d)) ?_
    rintro y' _ rfl
    have ih := sim_fil hb (items := ds) (acc := accO acc y')
    have : lcGo vs tg cond elt ds (accO acc y') E = (lcGo vs tg cond elt ds (accO acc y') E).bind .ok := by cases lcGo vs tg cond elt ds (accO acc y') E <;> rfl
    show Sim _ (lcGo vs tg cond elt ds (accO acc y') E) _
    rw [this]
    refine Sim.bind ih ?_
    rintro ys _ rfl
    exact ⟨_, rfl, by rw [accO_cons]⟩
theorem sim_map {f : D → Res D} {E : Env} (hb : ∀ d, Sim (f d) (lcIt vs tg cond elt d E) (fun a b => b = (some a, E))) : ∀ {items acc : List D}, Sim (mMap items f) (lcGo vs tg cond elt items acc E) (fun a b => b = (acc ++ a, E))
  | [], acc => ⟨(acc, E), rfl, by simp⟩
  | d :: ds, acc => by
    rw [lcGo_q]
    refine Sim.bind (Sim.noexn (hb d)) ?_
    rintro y _ rfl
    have ih := sim_map hb (items := ds) (acc := acc ++ [y])
    have : lcGo vs tg cond elt ds (acc ++ [y]) E = (lcGo vs tg cond elt ds (acc ++ [y]) E).bind .ok := by cases lcGo vs tg cond elt ds (acc ++ [y]) E <;> rfl
    show Sim _ (lcGo vs tg cond elt ds (acc ++ [y]) E) _
    rw [this]
    refine Sim.bind ih ?_
    rintro ys _ rfl
    exact ⟨_, rfl, by simp⟩
end
/-! ### defs -/
theorem sim_fn {R : Type} {RR : R → D → Env → Prop} {m : Res R} {os : R → D × List D} {pms : List PM} {n : Nat} {b : Es} {ds : List D} {E : Env} (hE : ds.map some ++ List.replicate (n - ds.length) none = E)
    (hr : ∀ v d ρ, RR v d ρ → (os v).1 = d ∧ outsOf (ioIx 0 pms) ρ = .ok (os v).2) (h : Sim m (b E) (QR RR)) : Sim m (fnEv pms n b ds) (fun v q => q = os v) := by
  subst hE
  unfold fnEv
  have : m = m.bind .ok := by cases m <;> rfl
  rw [this]
  refine Sim.bind h fun v fl q => ?_
  rcases q with ⟨d, ρ, rfl, q⟩ | ⟨ρ, rfl, q⟩
  · obtain ⟨h1, h2⟩ := hr _ _ _ q
    dsimp only
    rw [h2, ← h1]
    exact ⟨_, rfl, rfl⟩
  · obtain ⟨h1, h2⟩ := hr _ _ _ q
    dsimp only
    rw [h2, ← h1]
    exact ⟨_, rfl, rfl⟩
abbrev RR0 : D → D → Env → Prop := fun v d _ => v = d
abbrev RR1 (i : Nat) : D × D → D → Env → Prop := fun v d ρ => v.1 = d ∧ gv ρ i = .ok v.2
abbrev RR2 (i j : Nat) : D × D × D → D → Env → Prop := fun v d ρ => v.1 = d ∧ gv ρ i = .ok v.2.1 ∧ gv ρ j = .ok v.2.2
theorem rr0 {pms : List PM} (h : ioIx 0 pms = [] := by rfl) : ∀ v d ρ, RR0 v d ρ → ((fun v : D => (v, ([] : List D))) v).1 = d ∧ outsOf (ioIx 0 pms) ρ = .ok ((fun v : D => (v, ([] : List D))) v).2 := fun v d ρ e => ⟨e, by rw [h]; rfl⟩
theorem rr1 {pms : List PM} {i : Nat} (h : ioIx 0 pms = [i] := by rfl) : ∀ v d ρ, RR1 i v d ρ → ((fun v : D × D => (v.1, [v.2])) v).1 = d ∧ outsOf (ioIx 0 pms) ρ = .ok ((fun v : D × D => (v.1, [v.2])) v).2 := fun v d ρ e => ⟨e.1, by rw [h, outsOf_cons, e.2]; rfl⟩
theorem rr2 {pms : List PM} {i j : Nat} (h : ioIx 0 pms = [i, j] := by rfl) : ∀ v d ρ, RR2 i j v d ρ → ((fun v : D × D × D => (v.1, [v.2.1, v.2.2])) v).1 = d ∧ outsOf (ioIx 0 pms) ρ = .ok ((fun v : D × D × D => (v.1, [v.2.1, v.2.2])) v).2 := fun v d ρ e => ⟨e.1, by rw [h, outsOf_cons, e.2.1, outsOf_cons, e.2.2]; rfl⟩
/-! ### draws -/
def mDraw (f n : D) : Res (D × D) := match vDraw [f, n] with
  | .ok (r, [f']) => .ok (r, f')
  | _ => .bad
theorem sim_draw (f n : D) : Sim (mDraw f n) (vDraw [f, n]) (fun v q => q = (v.1, [v.2])) := by
  unfold mDraw
  split
  · rename_i h; rw [h]; exact ⟨_, rfl, rfl⟩
  · trivial
theorem mDraw_ok {d : D} {m : Int} (h : Feed d) (h0 : 0 < m) (h1 : m < 1073741824) : ∃ r d', mDraw d (.int m) = .ok (.int r, d') ∧ 0 ≤ r ∧ r < m ∧ Feed d' := by
  obtain ⟨r, d', e, h2⟩ := draw_ok h h0 h1
  exact ⟨r, d', by unfold mDraw; rw [e], h2⟩

theorem lenG_0 : lenG [] = .ok () := if_pos (Nat.le_of_ble_eq_true rfl)
theorem lenG_1 {x0 : D} : lenG [x0] = .ok () := if_pos (Nat.le_of_ble_eq_true rfl)
theorem lenG_2 {x0 x1 : D} : lenG [x0, x1] = .ok () := if_pos (Nat.le_of_ble_eq_true rfl)
theorem lenG_3 {x0 x1 x2 : D} : lenG [x0, x1, x2] = .ok () := if_pos (Nat.le_of_ble_eq_true rfl)
theorem lenG_4 {x0 x1 x2 x3 : D} : lenG [x0, x1, x2, x3] = .ok () := if_pos (Nat.le_of_ble_eq_true rfl)
theorem lenG_5 {x0 x1 x2 x3 x4 : D} : lenG [x0, x1, x2, x3, x4] = .ok () := if_pos (Nat.le_of_ble_eq_true rfl)
theorem lenG_6 {x0 x1 x2 x3 x4 x5 : D} : lenG [x0, x1, x2, x3, x4, x5] = .ok () := if_pos (Nat.le_of_ble_eq_true rfl)
theorem lenG_7 {x0 x1 x2 x3 x4 x5 x6 : D} : lenG [x0, x1, x2, x3, x4, x5, x6] = .ok () := if_pos (Nat.le_of_ble_eq_true rfl)
theorem lenG_8 {x0 x1 x2 x3 x4 x5 x6 x7 : D} : lenG [x0, x1, x2, x3, x4, x5, x6, x7] = .ok () := if_pos (Nat.le_of_ble_eq_true rfl)
theorem lenG_9 {x0 x1 x2 x3 x4 x5 x6 x7 x8 : D} : lenG [x0, x1, x2, x3, x4, x5, x6, x7, x8] = .ok () := if_pos (Nat.le_of_ble_eq_true rfl)
theorem lenG_10 {x0 x1 x2 x3 x4 x5 x6 x7 x8 x9 : D} : lenG [x0, x1, x2, x3, x4, x5, x6, x7, x8, x9] = .ok () := if_pos (Nat.le_of_ble_eq_true rfl)
theorem lenG_11 {x0 x1 x2 x3 x4 x5 x6 x7 x8 x9 x10 : D} : lenG [x0, x1, x2, x3, x4, x5, x6, x7, x8, x9, x10] = .ok () := if_pos (Nat.le_of_ble_eq_true rfl)
theorem lenG_12 {x0 x1 x2 x3 x4 x5 x6 x7 x8 x9 x10 x11 : D} : lenG [x0, x1, x2, x3, x4, x5, x6, x7, x8, x9, x10, x11] = .ok () := if_pos (Nat.le_of_ble_eq_true rfl)
theorem lenG_13 {x0 x1 x2 x3 x4 x5 x6 x7 x8 x9 x10 x11 x12 : D} : lenG [x0, x1, x2, x3, x4, x5, x6, x7, x8, x9, x10, x11, x12] = .ok () := if_pos (Nat.le_of_ble_eq_true rfl)
theorem lenG_14 {x0 x1 x2 x3 x4 x5 x6 x7 x8 x9 x10 x11 x12 x13 : D} : lenG [x0, x1, x2, x3, x4, x5, x6, x7, x8, x9, x10, x11, x12, x13] = .ok () := if_pos (Nat.le_of_ble_eq_true rfl)
theorem lenG_15 {x0 x1 x2 x3 x4 x5 x6 x7 x8 x9 x10 x11 x12 x13 x14 : D} : lenG [x0, x1, x2, x3, x4, x5, x6, x7, x8, x9, x10, x11, x12, x13, x14] = .ok () := if_pos (Nat.le_of_ble_eq_true rfl)
theorem lenG_16 {x0 x1 x2 x3 x4 x5 x6 x7 x8 x9 x10 x11 x12 x13 x14 x15 : D} : lenG [x0, x1, x2, x3, x4, x5, x6, x7, x8, x9, x10, x11, x12, x13, x14, x15] = .ok () := if_pos (Nat.le_of_ble_eq_true rfl)
theorem lenG_17 {x0 x1 x2 x3 x4 x5 x6 x7 x8 x9 x10 x11 x12 x13 x14 x15 x16 : D} : lenG [x0, x1, x2, x3, x4, x5, x6, x7, x8, x9, x10, x11, x12, x13, x14, x15, x16] = .ok () := if_pos (Nat.le_of_ble_eq_true rfl)
theorem lenG_18 {x0 x1 x2 x3 x4 x5 x6 x7 x8 x9 x10 x11 x12 x13 x14 x15 x16 x17 : D} : lenG [x0, x1, x2, x3, x4, x5, x6, x7, x8, x9, x10, x11, x12, x13, x14, x15, x16, x17] = .ok () := if_pos (Nat.le_of_ble_eq_true rfl)
theorem lenG_19 {x0 x1 x2 x3 x4 x5 x6 x7 x8 x9 x10 x11 x12 x13 x14 x15 x16 x17 x18 : D} : lenG [x0, x1, x2, x3, x4, x5, x6, x7, x8, x9, x10, x11, x12, x13, x14, x15, x16, x17, x18] = .ok () := if_pos (Nat.le_of_ble_eq_true rfl)
theorem lenG_20 {x0 x1 x2 x3 x4 x5 x6 x7 x8 x9 x10 x11 x12 x13 x14 x15 x16 x17 x18 x19 : D} : lenG [x0, x1, x2, x3, x4, x5, x6, x7, x8, x9, x10, x11, x12, x13, x14, x15, x16, x17, x18, x19] = .ok () := if_pos (Nat.le_of_ble_eq_true rfl)
theorem lenG_21 {x0 x1 x2 x3 x4 x5 x6 x7 x8 x9 x10 x11 x12 x13 x14 x15 x16 x17 x18 x19 x20 : D} : lenG [x0, x1, x2, x3, x4, x5, x6, x7, x8, x9, x10, x11, x12, x13, x14, x15, x16, x17, x18, x19, x20] = .ok () := if_pos (Nat.le_of_ble_eq_true rfl)
theorem lenG_22 {x0 x1 x2 x3 x4 x5 x6 x7 x8 x9 x10 x11 x12 x13 x14 x15 x16 x17 x18 x19 x20 x21 : D} : lenG [x0, x1, x2, x3, x4, x5, x6, x7, x8, x9, x10, x11, x12, x13, x14, x15, x16, x17, x18, x19, x20, x21] = .ok () := if_pos (Nat.le_of_ble_eq_true rfl)
theorem lenG_23 {x0 x1 x2 x3 x4 x5 x6 x7 x8 x9 x10 x11 x12 x13 x14 x15 x16 x17 x18 x19 x20 x21 x22 : D} : lenG [x0, x1, x2, x3, x4, x5, x6, x7, x8, x9, x10, x11, x12, x13, x14, x15, x16, x17, x18, x19, x20, x21, x22] = .ok () := if_pos (Nat.le_of_ble_eq_true rfl)
theorem lenG_24 {x0 x1 x2 x3 x4 x5 x6 x7 x8 x9 x10 x11 x12 x13 x14 x15 x16 x17 x18 x19 x20 x21 x22 x23 : D} : lenG [x0, x1, x2, x3, x4, x5, x6, x7, x8, x9, x10, x11, x12, x13, x14, x15, x16, x17, x18, x19, x20, x21, x22, x23] = .ok () := if_pos (Nat.le_of_ble_eq_true rfl)
theorem lenG_25 {x0 x1 x2 x3 x4 x5 x6 x7 x8 x9 x10 x11 x12 x13 x14 x15 x16 x17 x18 x19 x20 x21 x22 x23 x24 : D} : lenG [x0, x1, x2, x3, x4, x5, x6, x7, x8, x9, x10, x11, x12, x13, x14, x15, x16, x17, x18, x19, x20, x21, x22, x23, x24] = .ok () := if_pos (Nat.le_of_ble_eq_true rfl)
theorem lenG_26 {x0 x1 x2 x3 x4 x5 x6 x7 x8 x9 x10 x11 x12 x13 x14 x15 x16 x17 x18 x19 x20 x21 x22 x23 x24 x25 : D} : lenG [x0, x1, x2, x3, x4, x5, x6, x7, x8, x9, x10, x11, x12, x13, x14, x15, x16, x17, x18, x19, x20, x21, x22, x23, x24, x25] = .ok () := if_pos (Nat.le_of_ble_eq_true rfl)
theorem lenG_27 {x0 x1 x2 x3 x4 x5 x6 x7 x8 x9 x10 x11 x12 x13 x14 x15 x16 x17 x18 x19 x20 x21 x22 x23 x24 x25 x26 : D} : lenG [x0, x1, x2, x3, x4, x5, x6, x7, x8, x9, x10, x11, x12, x13, x14, x15, x16, x17, x18, x19, x20, x21, x22, x23, x24, x25, x26] = .ok () := if_pos (Nat.le_of_ble_eq_true rfl)
theorem lenG_28 {x0 x1 x2 x3 x4 x5 x6 x7 x8 x9 x10 x11 x12 x13 x14 x15 x16 x17 x18 x19 x20 x21 x22 x23 x24 x25 x26 x27 : D} : lenG [x0, x1, x2, x3, x4, x5, x6, x7, x8, x9, x10, x11, x12, x13, x14, x15, x16, x17, x18, x19, x20, x21, x22, x23, x24, x25, x26, x27] = .ok () := if_pos (Nat.le_of_ble_eq_true rfl)
theorem lenG_29 {x0 x1 x2 x3 x4 x5 x6 x7 x8 x9 x10 x11 x12 x13 x14 x15 x16 x17 x18 x19 x20 x21 x22 x23 x24 x25 x26 x27 x28 : D} : lenG [x0, x1, x2, x3, x4, x5, x6, x7, x8, x9, x10, x11, x12, x13, x14, x15, x16, x17, x18, x19, x20, x21, x22, x23, x24, x25, x26, x27, x28] = .ok () := if_pos (Nat.le_of_ble_eq_true rfl)
theorem lenG_30 {x0 x1 x2 x3 x4 x5 x6 x7 x8 x9 x10 x11 x12 x13 x14 x15 x16 x17 x18 x19 x20 x21 x22 x23 x24 x25 x26 x27 x28 x29 : D} : lenG [x0, x1, x2, x3, x4, x5, x6, x7, x8, x9, x10, x11, x12, x13, x14, x15, x16, x17, x18, x19, x20, x21, x22, x23, x24, x25, x26, x27, x28, x29] = .ok () := if_pos (Nat.le_of_ble_eq_true rfl)
theorem lenG_31 {x0 x1 x2 x3 x4 x5 x6 x7 x8 x9 x10 x11 x12 x13 x14 x15 x16 x17 x18 x19 x20 x21 x22 x23 x24 x25 x26 x27 x28 x29 x30 : D} : lenG [x0, x1, x2, x3, x4, x5, x6, x7, x8, x9, x10, x11, x12, x13, x14, x15, x16, x17, x18, x19, x20, x21, x22, x23, x24, x25, x26, x27, x28, x29, x30] = .ok () := if_pos (Nat.le_of_ble_eq_true rfl)
theorem lenG_32 {x0 x1 x2 x3 x4 x5 x6 x7 x8 x9 x10 x11 x12 x13 x14 x15 x16 x17 x18 x19 x20 x21 x22 x23 x24 x25 x26 x27 x28 x29 x30 x31 : D} : lenG [x0, x1, x2, x3, x4, x5, x6, x7, x8, x9, x10, x11, x12, x13, x14, x15, x16, x17, x18, x19, x20, x21, x22, x23, x24, x25, x26, x27, x28, x29, x30, x31] = .ok () := if_pos (Nat.le_of_ble_eq_true rfl)
theorem lenG_33 {x0 x1 x2 x3 x4 x5 x6 x7 x8 x9 x10 x11 x12 x13 x14 x15 x16 x17 x18 x19 x20 x21 x22 x23 x24 x25 x26 x27 x28 x29 x30 x31 x32 : D} : lenG [x0, x1, x2, x3, x4, x5, x6, x7, x8, x9, x10, x11, x12, x13, x14, x15, x16, x17, x18, x19, x20, x21, x22, x23, x24, x25, x26, x27, x28, x29, x30, x31, x32] = .ok () := if_pos (Nat.le_of_ble_eq_true rfl)
theorem lenG_34 {x0 x1 x2 x3 x4 x5 x6 x7 x8 x9 x10 x11 x12 x13 x14 x15 x16 x17 x18 x19 x20 x21 x22 x23 x24 x25 x26 x27 x28 x29 x30 x31 x32 x33 : D} : lenG [x0, x1, x2, x3, x4, x5, x6, x7, x8, x9, x10, x11, x12, x13, x14, x15, x16, x17, x18, x19, x20, x21, x22, x23, x24, x25, x26, x27, x28, x29, x30, x31, x32, x33] = .ok () := if_pos (Nat.le_of_ble_eq_true rfl)
theorem lenG_35 {x0 x1 x2 x3 x4 x5 x6 x7 x8 x9 x10 x11 x12 x13 x14 x15 x16 x17 x18 x19 x20 x21 x22 x23 x24 x25 x26 x27 x28 x29 x30 x31 x32 x33 x34 : D} : lenG [x0, x1, x2, x3, x4, x5, x6, x7, x8, x9, x10, x11, x12, x13, x14, x15, x16, x17, x18, x19, x20, x21, x22, x23, x24, x25, x26, x27, x28, x29, x30, x31, x32, x33, x34] = .ok () := if_pos (Nat.le_of_ble_eq_true rfl)
theorem lenG_36 {x0 x1 x2 x3 x4 x5 x6 x7 x8 x9 x10 x11 x12 x13 x14 x15 x16 x17 x18 x19 x20 x21 x22 x23 x24 x25 x26 x27 x28 x29 x30 x31 x32 x33 x34 x35 : D} : lenG [x0, x1, x2, x3, x4, x5, x6, x7, x8, x9, x10, x11, x12, x13, x14, x15, x16, x17, x18, x19, x20, x21, x22, x23, x24, x25, x26, x27, x28, x29, x30, x31, x32, x33, x34, x35] = .ok () := if_pos (Nat.le_of_ble_eq_true rfl)
theorem lenG_37 {x0 x1 x2 x3 x4 x5 x6 x7 x8 x9 x10 x11 x12 x13 x14 x15 x16 x17 x18 x19 x20 x21 x22 x23 x24 x25 x26 x27 x28 x29 x30 x31 x32 x33 x34 x35 x36 : D} : lenG [x0, x1, x2, x3, x4, x5, x6, x7, x8, x9, x10, x11, x12, x13, x14, x15, x16, x17, x18, x19, x20, x21, x22, x23, x24, x25, x26, x27, x28, x29, x30, x31, x32, x33, x34, x35, x36] = .ok () := if_pos (Nat.le_of_ble_eq_true rfl)
theorem lenG_38 {x0 x1 x2 x3 x4 x5 x6 x7 x8 x9 x10 x11 x12 x13 x14 x15 x16 x17 x18 x19 x20 x21 x22 x23 x24 x25 x26 x27 x28 x29 x30 x31 x32 x33 x34 x35 x36 x37 : D} : lenG [x0, x1, x2, x3, x4, x5, x6, x7, x8, x9, x10, x11, x12, x13, x14, x15, x16, x17, x18, x19, x20, x21, x22, x23, x24, x25, x26, x27, x28, x29, x30, x31, x32, x33, x34, x35, x36, x37] = .ok () := if_pos (Nat.le_of_ble_eq_true rfl)
theorem lenG_39 {x0 x1 x2 x3 x4 x5 x6 x7 x8 x9 x10 x11 x12 x13 x14 x15 x16 x17 x18 x19 x20 x21 x22 x23 x24 x25 x26 x27 x28 x29 x30 x31 x32 x33 x34 x35 x36 x37 x38 : D} : lenG [x0, x1, x2, x3, x4, x5, x6, x7, x8, x9, x10, x11, x12, x13, x14, x15, x16, x17, x18, x19, x20, x21, x22, x23, x24, x25, x26, x27, x28, x29, x30, x31, x32, x33, x34, x35, x36, x37, x38] = .ok () := if_pos (Nat.le_of_ble_eq_true rfl)
theorem lenG_40 {x0 x1 x2 x3 x4 x5 x6 x7 x8 x9 x10 x11 x12 x13 x14 x15 x16 x17 x18 x19 x20 x21 x22 x23 x24 x25 x26 x27 x28 x29 x30 x31 x32 x33 x34 x35 x36 x37 x38 x39 : D} : lenG [x0, x1, x2, x3, x4, x5, x6, x7, x8, x9, x10, x11, x12, x13, x14, x15, x16, x17, x18, x19, x20, x21, x22, x23, x24, x25, x26, x27, x28, x29, x30, x31, x32, x33, x34, x35, x36, x37, x38, x39] = .ok () := if_pos (Nat.le_of_ble_eq_true rfl)
theorem eOut_0 {i : Nat} {ρ : Env} : eOut [] i ρ = eVar i ρ := rfl
theorem gv_get {ρ : Env} {j : Nat} {m : Res (D × Env)} : (if (match ρ[j]? with | some (some _) => true | _ => false) = true then m else .bad) = (gv ρ j).bind fun _ => m := by
  unfold gv
  cases h : ρ[j]? with
  | none => rfl
  | some x => cases x <;> rfl
theorem eOut_1 {i j : Nat} {ρ : Env} : eOut [j] i ρ = (gv ρ j).bind fun _ => eVar i ρ := by
  unfold eOut
  simp only [List.all_cons, List.all_nil, Bool.and_true]
  exact gv_get
theorem eOut_2 {i j k : Nat} {ρ : Env} : eOut [j, k] i ρ = (gv ρ j).bind fun _ => (gv ρ k).bind fun _ => eVar i ρ := by
  unfold eOut
  simp only [List.all_cons, List.all_nil, Bool.and_true, Bool.and_eq_true]
  unfold gv
  cases h : ρ[j]? with
  | none => rfl
  | some x =>
    cases x with
    | none => rfl
    | some y =>
      cases h2 : ρ[k]? with
      | none => rfl
      | some z => cases z <;> rfl
theorem Sim.nil {α : Type} {m : Res α} {r : Res Fl} {Q : α → Fl → Prop} (h : Sim m (r.bind (fk sNil)) Q) : Sim m r Q := by rw [bind_fk_nil] at h; exact h
theorem sim_exnR {α β : Type} {c : String} {fs : List String} {ds : List D} {Q : α → β → Prop} : Sim (exnR c fs ds) (exnR c fs ds) Q := by unfold exnR; split <;> trivial
def aftE {σ β : Type} (r : Stp σ Empty) (k : σ → Res β) : Res β := match r with
  | .next s => k s
  | .brk s => k s
  | .ret v => nomatch v
def RRE : Empty → D → Env → Prop := fun v _ _ => nomatch v
theorem sim_aftE {σ β : Type} {P : σ → Env → Prop} {Q : β → Fl → Prop} {k : Es} {g : σ → Res β} {r : Stp σ Empty} {fl : Fl} (h : QF RRE P r fl) (hk : ∀ s ρ, P s ρ → Sim (g s) (k ρ) Q) : Sim (aftE r g) (fk k fl) Q := by
  cases r with
  | next s => obtain ⟨ρ, rfl, h⟩ := h; exact hk s ρ h
  | brk s => exact h.elim
  | ret v => exact nomatch v
section
variable {σ R : Type} {RR : R → D → Env → Prop} {P : σ → Env → Prop} {s : σ} {v : R} {d : D} {ρ : Env}
theorem fR (h : RR v d ρ) : Sim (.ok v) (.ok (.ret d ρ)) (QR RR) := ⟨_, rfl, .inl ⟨d, ρ, rfl, h⟩⟩
theorem fRn (h : RR v .non ρ) : Sim (.ok v) (.ok (.next ρ)) (QR RR) := ⟨_, rfl, .inr ⟨ρ, rfl, h⟩⟩
theorem fSr (h : RR v d ρ) : Sim (.ok (.ret v)) (.ok (.ret d ρ)) (QS RR P) := ⟨_, rfl, d, ρ, rfl, h⟩
theorem fSn (h : P s ρ) : Sim (.ok (.next s)) (.ok (.next ρ)) (QS RR P) := ⟨_, rfl, ρ, .inl rfl, h⟩
theorem fSc (h : P s ρ) : Sim (.ok (.next s)) (.ok (.cont ρ)) (QS RR P) := ⟨_, rfl, ρ, .inr rfl, h⟩
theorem fSb (h : P s ρ) : Sim (.ok (.brk s)) (.ok (.brk ρ)) (QS RR P) := ⟨_, rfl, ρ, rfl, h⟩
theorem fNn (h : P s ρ) : Sim (.ok s) (.ok (.next ρ)) (QN P) := ⟨_, rfl, ρ, .inl rfl, h⟩
theorem fNc (h : P s ρ) : Sim (.ok s) (.ok (.cont ρ)) (QN P) := ⟨_, rfl, ρ, .inr rfl, h⟩
theorem fFn (h : P s ρ) : Sim (.ok (.next s)) (.ok (.next ρ)) (QF RR P) := ⟨_, rfl, ρ, rfl, h⟩
theorem fFr (h : RR v d ρ) : Sim (.ok (.ret v)) (.ok (.ret d ρ)) (QF RR P) := ⟨_, rfl, d, ρ, rfl, h⟩
end
end VL

set_option Elab.async false
set_option linter.all false
set_option maxRecDepth 100000
/-! VN: typed data in D; how mirrors are reckoned out; what holds behind them (Post). -/
namespace VL
open PySem PySem.Spec PyProof.Rows L2

class Emb (α : Type) where
  emb : α → D
open Emb (emb)
abbrev Txt := List Nat
structure Tri (α β γ : Type) where
  a : α
  b : β
  c : γ
  deriving DecidableEq
structure Quad (α β γ δ : Type) where
  a : α
  b : β
  c : γ
  d : δ
  deriving DecidableEq
/-- a tuple of any length -/
structure Tup (α : Type) where
  l : List α
  deriving DecidableEq
instance : Emb Int := ⟨.int⟩
instance : Emb Bool := ⟨.bl⟩
instance : Emb Unit := ⟨fun _ => .non⟩
instance : Emb D := ⟨fun d => d⟩
instance : Emb Txt := ⟨.str⟩
section
variable {α β γ δ : Type} [Emb α] [Emb β] [Emb γ] [Emb δ]
instance : Emb (Option α) := ⟨fun o => match o with | none => .non | some a => emb a⟩
instance : Emb (List α) := ⟨fun l => .lst (l.map emb)⟩
instance : Emb (Tup α) := ⟨fun l => .tup (l.l.map emb)⟩
instance : Emb (α × β) := ⟨fun p => .tup [emb p.1, emb p.2]⟩
instance : Emb (Tri α β γ) := ⟨fun p => .tup [emb p.a, emb p.b, emb p.c]⟩
instance : Emb (Quad α β γ δ) := ⟨fun p => .tup [emb p.a, emb p.b, emb p.c, emb p.d]⟩
@[simp] theorem emb_int (i : Int) : emb i = .int i := rfl
@[simp] theorem emb_bl (i : Bool) : emb i = .bl i := rfl
@[simp] theorem emb_unit (i : Unit) : emb i = .non := rfl
@[simp] theorem emb_D (d : D) : emb d = d := rfl
@[simp] theorem emb_txt (i : Txt) : (emb i : D) = .str i := rfl
@[simp] theorem emb_none : emb (none : Option α) = .non := rfl
@[simp] theorem emb_some (a : α) : emb (some a) = emb a := rfl
@[simp] theorem emb_lst (l : List α) : emb l = .lst (l.map emb) := rfl
@[simp] theorem emb_Tup (l : Tup α) : emb l = .tup (l.l.map emb) := rfl
@[simp] theorem emb_pair (p : α × β) : emb p = .tup [emb p.1, emb p.2] := rfl
@[simp] theorem emb_tri (p : Tri α β γ) : emb p = .tup [emb p.a, emb p.b, emb p.c] := rfl
@[simp] theorem emb_quad (p : Quad α β γ δ) : emb p = .tup [emb p.a, emb p.b, emb p.c, emb p.d] := rfl
/-! ### lists of embedded data -/
theorem atI_map {l : List α} {f : α → β} {i : Int} : atI (l.map f) i = (atI l i).map f := by
  unfold atI
  rw [List.length_map]
  cases ixN l.length i with
  | none => rfl
  | some j => simp
theorem ixN_nat {n k : Nat} (h : k < n) : ixN n (k : Int) = some k := by
  unfold ixN; rw [if_pos (by omega), if_pos (by omega)]; simp
theorem ixN_pos {n : Nat} {i : Int} (h0 : 0 ≤ i) (h : i < n) : ixN n i = some i.toNat := by
  unfold ixN; rw [if_pos h0, if_pos (by omega)]
theorem ixN_neg {n : Nat} {i : Int} (h0 : i < 0) (h : 0 ≤ i + n) : ixN n i = some (i + n).toNat := by
  unfold ixN; rw [if_neg (by omega), if_pos (by omega)]
theorem atI_nat {l : List α} {k : Nat} (h : k < l.length) : atI l (k : Int) = some l[k] := by
  unfold atI; rw [ixN_nat h]; simp [h]
theorem atI_pos {l : List α} {i : Int} (h0 : 0 ≤ i) (h : i.toNat < l.length) : atI l i = some l[i.toNat] := by
  unfold atI; rw [ixN_pos h0 (by omega)]; simp [h]
theorem atI_last {l : List α} {x : α} : atI (l ++ [x]) (-1) = some x := by
  unfold atI; rw [ixN_neg (by omega) (by simp; omega)]
  simp only [Option.bind_some, List.length_append, List.length_cons, List.length_nil]
  rw [show (-1 + ((l.length + (0 + 1) : Nat) : Int)).toNat = l.length by omega]; simp
theorem atI_getLast {l : List α} (h : l ≠ []) : atI l (-1) = some (l.getLast h) := by
  conv => lhs; rw [← List.dropLast_concat_getLast h]
  exact atI_last
@[simp] theorem atI_0 {x : α} {l : List α} : atI (x :: l) 0 = some x := at_nat (n := 0) rfl
@[simp] theorem atI_1 {x y : α} {l : List α} : atI (x :: y :: l) 1 = some y := at_nat (n := 1) rfl
@[simp] theorem atI_2 {x y z : α} {l : List α} : atI (x :: y :: z :: l) 2 = some z := at_nat (n := 2) rfl
@[simp] theorem atI_3 {x y z w : α} {l : List α} : atI (x :: y :: z :: w :: l) 3 = some w := at_nat (n := 3) rfl
@[simp] theorem atI_4 {x y z w v : α} {l : List α} : atI (x :: y :: z :: w :: v :: l) 4 = some v := at_nat (n := 4) rfl
@[simp] theorem atI_5 {x y z w v u : α} {l : List α} : atI (x :: y :: z :: w :: v :: u :: l) 5 = some u := at_nat (n := 5) rfl
/-- whatever is taken out of a list has what all of it has -/
theorem atI_all {l : List α} {i : Int} (h0 : 0 ≤ i) (h : i < l.length) : ∃ x, atI l i = some x ∧ x ∈ l := ⟨_, atI_pos h0 (by omega), List.getElem_mem _⟩
@[simp] theorem embs_ints (l : List Int) : intsOf (l.map emb) = some l := by
  induction l with
  | nil => rfl
  | cons x r ih => simp only [List.map_cons, emb_int, intsOf, ih]; rfl
@[simp] theorem intsOf_f {γ : Type} {l : List γ} {f : γ → Int} : intsOf (l.map fun x => D.int (f x)) = some (l.map f) := by
  have := embs_ints (l.map f)
  rwa [List.map_map] at this
@[simp] theorem intsOf_c {γ : Type} {l : List γ} {f : γ → Int} : intsOf (l.map (emb ∘ f)) = some (l.map f) := intsOf_f
@[simp] theorem embs_bls (l : List Bool) : blsOf (l.map emb) = some l := by
  induction l with
  | nil => rfl
  | cons x r ih => simp only [List.map_cons, emb_bl, blsOf, ih]; rfl
@[simp] theorem blsOf_f {γ : Type} {l : List γ} {f : γ → Bool} : blsOf (l.map fun x => D.bl (f x)) = some (l.map f) := by
  have := embs_bls (l.map f)
  rwa [List.map_map] at this
@[simp] theorem blsOf_c {γ : Type} {l : List γ} {f : γ → Bool} : blsOf (l.map (emb ∘ f)) = some (l.map f) := blsOf_f
end
/-! ### reckoning -/
section
variable {α β γ : Type}
@[simp] theorem lenG_ok {l : List D} (h : l.length ≤ 16777216) : lenG l = .ok () := if_pos h
@[simp] theorem nc_int (i : Int) : nc (.int i) = .ok () := rfl
@[simp] theorem nc_bl (i : Bool) : nc (.bl i) = .ok () := rfl
@[simp] theorem nc_str (i : List Nat) : nc (.str i) = .ok () := rfl
@[simp] theorem nc_tup (i : List D) : nc (.tup i) = .ok () := rfl
@[simp] theorem nc_non : nc .non = .ok () := rfl
@[simp] theorem ite_tB {c : Prop} [Decidable c] {b : Bool} : (if c then (.ok true : Res Bool) else .ok b) = .ok (decide c || b) := by by_cases c <;> simp [*]
@[simp] theorem ite_Bf {c : Prop} [Decidable c] {b : Bool} : (if c then (.ok b : Res Bool) else .ok false) = .ok (decide c && b) := by by_cases c <;> simp [*]
@[simp] theorem ite_fB {c : Prop} [Decidable c] {b : Bool} : (if c then (.ok false : Res Bool) else .ok b) = .ok (!decide c && b) := by by_cases c <;> simp [*]
@[simp] theorem ite_tD {c : Prop} [Decidable c] {b : Bool} : (if c then (.ok (.bl true) : Res D) else .ok (.bl b)) = .ok (.bl (decide c || b)) := by by_cases c <;> simp [*]
@[simp] theorem ite_Df {c : Prop} [Decidable c] {b : Bool} : (if c then (.ok (.bl b) : Res D) else .ok (.bl false)) = .ok (.bl (decide c && b)) := by by_cases c <;> simp [*]
@[simp] theorem ite_fD {c : Prop} [Decidable c] {b : Bool} : (if c then (.ok (.bl false) : Res D) else .ok (.bl b)) = .ok (.bl (!decide c && b)) := by by_cases c <;> simp [*]
theorem ite_ok {c : Prop} [Decidable c] {a b : α} : (if c then (.ok a : Res α) else .ok b) = .ok (if c then a else b) := by split <;> rfl
@[simp] theorem aftF_next {σ R : Type} {s : σ} {k : σ → Res R} : aftF (.next s) k = k s := rfl
@[simp] theorem aftF_ret {σ R : Type} {s : R} {k : σ → Res R} : aftF (.ret s) k = .ok s := rfl
@[simp] theorem aftL_next {σ τ R : Type} {s : σ} {k : σ → Res (Stp τ R)} : aftL (.next s) k = k s := rfl
@[simp] theorem aftL_ret {σ τ R : Type} {s : R} {k : σ → Res (Stp τ R)} : aftL (.ret s) k = .ok (.ret s) := rfl
@[simp] theorem aftE_next {σ β : Type} {s : σ} {k : σ → Res β} : aftE (.next s) k = k s := rfl
@[simp] theorem tryM_ok {σ R : Type} {cs : List String} {a : Stp σ R} {h : D → Res (Stp σ R)} : tryM cs (.ok a) h = .ok a := rfl
@[simp] theorem tryM_exn {σ R : Type} {cs : List String} {c : String} {fs : List (String × D)} {h : D → Res (Stp σ R)} : tryM cs (.exn ⟨c, fs⟩) h = if cs.contains c = true then match h (.exc c fs) with
      | .ok (.next s) => .ok (.next s)
      | .ok (.ret v) => .ok (.ret v)
      | _ => .bad
    else .bad := rfl
@[simp] theorem exnR_1 {c f : String} {d : D} : (exnR c [f] [d] : Res α) = .exn ⟨c, [(f, d)]⟩ := rfl
@[simp] theorem exnR_2 {c f g : String} {d e : D} : (exnR c [f, g] [d, e] : Res α) = .exn ⟨c, [(g, e), (f, d)]⟩ := rfl
@[simp] theorem exF_exc {cs : List String} {f c : String} {fs : List (String × D)} : exF cs f (.exc c fs) = if cs.contains c = true then opt (lookF f fs) else .bad := rfl
@[simp] theorem exI_exc {tb : List (String × Bool)} {c : String} {fs : List (String × D)} : exI tb (.exc c fs) = (opt (lookB c tb)).bind fun b => .ok (.bl b) := rfl
@[simp] theorem lookB_1 {c : String} {b : Bool} : lookB c [(c, b)] = some b := by simp [lookB]
@[simp] theorem lookF_1 {f : String} {d : D} {r : List (String × D)} : lookF f ((f, d) :: r) = some d := by simp [lookF]
@[simp] theorem setR_ok {l : List D} {i : Int} {d : D} : setR (.lst l) (.int i) d = (opt (ixN l.length i)).bind fun j => .ok (.lst (l.set j d)) := by
  unfold setR; dsimp only; cases ixN l.length i <;> rfl
@[simp] theorem getI_ok {l : List D} {i : Int} : getI (.lst l) (.int i) = (opt (atI l i)).bind toI := by
  unfold getI; dsimp only; cases atI l i with
  | none => rfl
  | some d => cases d <;> rfl
@[simp] theorem tyD_int (i : Int) : tyD (.int i) = some "int" := rfl
@[simp] theorem tyD_bl (i : Bool) : tyD (.bl i) = some "bool" := rfl
@[simp] theorem tyD_str (i : List Nat) : tyD (.str i) = some "str" := rfl
@[simp] theorem tyD_tup (i : List D) : tyD (.tup i) = some "tuple" := rfl
@[simp] theorem tyD_lst (i : List D) : tyD (.lst i) = some "list" := rfl
@[simp] theorem tyD_non : tyD .non = some "NoneType" := rfl
@[simp] theorem fSum_lst {l : List D} : fSum [.lst l] = (intsOf l).map fun ns => .int ns.sum := rfl
@[simp] theorem fSorted_lst {l : List D} : fSorted [.lst l] = (intsOf l).map fun ns => .lst ((sortI ns).map emb) := rfl
@[simp] theorem fAny_lst {l : List D} : fAny [.lst l] = (blsOf l).map fun ns => .bl (ns.any id) := rfl
@[simp] theorem fAll_lst {l : List D} : fAll [.lst l] = (blsOf l).map fun ns => .bl (ns.all id) := rfl
@[simp] theorem opt_map {o : Option α} {f : α → β} : opt (o.map f) = (opt o).bind fun a => .ok (f a) := by cases o <;> rfl
theorem dMul_in {i j : Int} (h : i.natAbs < 18446744073709551616) : dMul (.int i) (.int j) = some (.int (i * j)) := by
  rw [dMul_int, if_pos (by unfold cMulB; exact decide_eq_true (.inl h))]
theorem dMul_in' {i j : Int} (h : j.natAbs < 18446744073709551616) : dMul (.int i) (.int j) = some (.int (i * j)) := by
  rw [dMul_int, if_pos (by unfold cMulB; exact decide_eq_true (.inr h))]
theorem dMul_rep {a : List D} {k : Int} (h : k ≤ 16777216) (h2 : -16777216 ≤ k) (h3 : a.length * k.toNat ≤ 16777216) : dMul (.lst a) (.int k) = some (.lst (List.replicate k.toNat a).flatten) := if_pos ⟨h, h2, h3⟩
@[simp] theorem enumD_nil (k : Nat) : enumD k [] = [] := rfl
@[simp] theorem enumD_cons (k : Nat) (d : D) (ds : List D) : enumD k (d :: ds) = .tup [.int (k : Nat), d] :: enumD (k + 1) ds := rfl
@[simp] theorem forN_nil {σ : Type} {s : σ} {f : D → σ → Res σ} : forN [] s f = .ok s := rfl
@[simp] theorem forN_cons {σ : Type} {d : D} {ds : List D} {s : σ} {f : D → σ → Res σ} : forN (d :: ds) s f = (f d s).bind fun s' => forN ds s' f := rfl
@[simp] theorem forB_nil {σ R : Type} {s : σ} {f : D → σ → Res (Stp σ R)} : forB [] s f = .ok (.next s) := rfl
@[simp] theorem forB_cons {σ R : Type} {d : D} {ds : List D} {s : σ} {f : D → σ → Res (Stp σ R)} : forB (d :: ds) s f = (f d s).bind fun r => match r with
    | .next s' => forB ds s' f
    | .brk s' => .ok (.next s')
    | .ret v => .ok (.ret v) := rfl
@[simp] theorem rng_1 {j : Int} (h : j < 4611686018427387904) (h2 : -4611686018427387904 < j) : rngOf [.int j] = some ((List.range j.toNat).map fun k : Nat => D.int (k : Nat)) := rng1 h h2
theorem rng_2 {i j : Int} (h : j < 4611686018427387904) (h2 : -4611686018427387904 < j) (h3 : i < 4611686018427387904) (h4 : -4611686018427387904 < i) : rngOf [.int i, .int j] = some ((List.range (j - i).toNat).map fun k : Nat => D.int (i + (k : Nat))) := by
  unfold rngOf; dsimp only; rw [if_pos (by rw [rB_iff.mpr ⟨h, h2⟩, rB_iff.mpr ⟨h3, h4⟩]; rfl)]
end
/-- n whole numbers from i on -/
def ups : Int → Nat → List Int
  | _, 0 => []
  | i, n + 1 => i :: ups (i + 1) n
theorem ups_map (i : Int) (n : Nat) : (List.range n).map (fun k : Nat => D.int (i + (k : Nat))) = (ups i n).map emb := by
  induction n generalizing i with
  | zero => rfl
  | succ n ih =>
    rw [List.range_succ_eq_map, List.map_cons, List.map_map]
    simp only [ups, List.map_cons, emb_int]
    rw [← ih (i + 1)]
    congr 1
    · simp
    · apply List.map_congr_left
      intro k _
      simp only [Function.comp]
      congr 1; omega
theorem ups_map0 (n : Nat) : (List.range n).map (fun k : Nat => D.int (k : Nat)) = (ups 0 n).map emb := by
  rw [← ups_map]; apply List.map_congr_left; intro k _; simp
@[simp] theorem ups_len (i : Int) (n : Nat) : (ups i n).length = n := by
  induction n generalizing i with
  | zero => rfl
  | succ n ih => simp [ups, ih]
theorem mem_ups {i x : Int} {n : Nat} : x ∈ ups i n ↔ i ≤ x ∧ x < i + n := by
  induction n generalizing i with
  | zero => simp only [ups, List.not_mem_nil, false_iff]; omega
  | succ n ih => simp only [ups, List.mem_cons, ih]; omega
theorem rngI_1 {j : Int} (h : j < 4611686018427387904) (h2 : -4611686018427387904 < j) : rngOf [.int j] = some ((ups 0 j.toNat).map emb) := by rw [rng1 h h2, ups_map0]
theorem rngI_2 {i j : Int} (h : j < 4611686018427387904) (h2 : -4611686018427387904 < j) (h3 : i < 4611686018427387904) (h4 : -4611686018427387904 < i) : rngOf [.int i, .int j] = some ((ups i (j - i).toNat).map emb) := by rw [rng_2 h h2 h3 h4, ups_map]
theorem rngI_3 {i j : Int} (h : j < 4611686018427387904) (h2 : -4611686018427387904 < j) (h3 : i < 4611686018427387904) (h4 : -4611686018427387904 < i) : rngOf [.int i, .int j, .int (-1)] = some ((List.range (i - j).toNat).map fun k : Nat => D.int (i - (k : Nat))) := by
  unfold rngOf; dsimp only
  rw [if_pos (by rw [rB_iff.mpr ⟨h, h2⟩, rB_iff.mpr ⟨h3, h4⟩]; rfl)]
  congr 1; apply List.map_congr_left; intro k _; congr 1; omega
/-! ### walks over lists -/
section
variable {α σ τ R : Type} {l : List α} {g : α → D}
theorem mMap_map {f : D → Res D} {h : α → D} (H : ∀ x ∈ l, f (g x) = .ok (h x)) : mMap (l.map g) f = .ok (l.map h) := by
  induction l with
  | nil => rfl
  | cons x r ih =>
    show (noexn (f (g x))).bind _ = _
    rw [H x List.mem_cons_self]
    simp only [noexn_ok, Res.bind_ok]
    rw [ih fun y hy => H y (List.mem_cons_of_mem _ hy)]
    rfl
theorem mFil_map {f : D → Res (Option D)} {h : α → D} {c : α → Bool} (H : ∀ x ∈ l, f (g x) = .ok (if c x = true then some (h x) else none)) : mFil (l.map g) f = .ok ((l.filter c).map h) := by
  induction l with
  | nil => rfl
  | cons x r ih =>
    show (noexn (f (g x))).bind _ = _
    rw [H x List.mem_cons_self]
    simp only [noexn_ok, Res.bind_ok]
    rw [ih fun y hy => H y (List.mem_cons_of_mem _ hy)]
    simp only [Res.bind_ok, List.filter_cons]
    split <;> rfl
theorem mFil_all {f : D → Res (Option D)} {h : α → D} (H : ∀ x ∈ l, f (g x) = .ok (some (h x))) : mFil (l.map g) f = .ok (l.map h) := by
  have := mFil_map (l := l) (g := g) (f := f) (h := h) (c := fun _ => true) (fun x hx => by rw [H x hx]; rfl)
  rwa [List.filter_eq_self.mpr (by simp)] at this
theorem mMap_len {f : D → Res D} : ∀ {l r : List D}, mMap l f = .ok r → r.length = l.length
  | [], r, h => by cases h; rfl
  | d :: l, r, h => by
    simp only [mMap] at h
    cases hd : noexn (f d) with
    | bad => rw [hd] at h; cases h
    | exn x => rw [hd] at h; cases h
    | ok y =>
      rw [hd] at h
      simp only [Res.bind_ok] at h
      cases hm : mMap l f with
      | bad => rw [hm] at h; cases h
      | exn x => rw [hm] at h; cases h
      | ok ys => rw [hm] at h; cases h; simp [mMap_len hm]
theorem forN_map {f : D → σ → Res σ} {e : τ → σ} {k : τ → α → τ} : ∀ {l : List α} {s : τ}, (∀ x ∈ l, ∀ s, f (g x) (e s) = .ok (e (k s x))) → forN (l.map g) (e s) f = .ok (e (l.foldl k s))
  | [], _, _ => rfl
  | x :: r, s, H => by
    show (f (g x) (e s)).bind _ = _
    rw [H x List.mem_cons_self]
    exact forN_map fun y hy => H y (List.mem_cons_of_mem _ hy)
theorem forB_next {f : D → σ → Res (Stp σ R)} {s : σ} (H : ∀ x ∈ l, f (g x) s = .ok (.next s)) : forB (l.map g) s f = .ok (.next s) := by
  induction l with
  | nil => rfl
  | cons x r ih =>
    show (f (g x) s).bind _ = _
    rw [H x List.mem_cons_self]
    exact ih fun y hy => H y (List.mem_cons_of_mem _ hy)
theorem forB_map {f : D → σ → Res (Stp σ R)} {e : τ → σ} {k : τ → α → τ} : ∀ {l : List α} {s : τ}, (∀ x ∈ l, ∀ s, f (g x) (e s) = .ok (.next (e (k s x)))) → forB (l.map g) (e s) f = .ok (.next (e (l.foldl k s)))
  | [], _, _ => rfl
  | x :: r, s, H => by
    show (f (g x) (e s)).bind _ = _
    rw [H x List.mem_cons_self]
    exact forB_map fun y hy => H y (List.mem_cons_of_mem _ hy)
/-- the first item at which the walk ends -/
theorem forB_find {f : D → σ → Res (Stp σ R)} {s : σ} {c : α → Bool} {v : α → R} (H : ∀ x ∈ l, f (g x) s = .ok (if c x = true then .ret (v x) else .next s)) : forB (l.map g) s f = .ok (match l.find? c with | some x => .ret (v x) | none => .next s) := by
  induction l with
  | nil => rfl
  | cons x r ih =>
    show (f (g x) s).bind _ = _
    rw [H x List.mem_cons_self, List.find?_cons]
    cases hc : c x with
    | true => rfl
    | false => exact ih fun y hy => H y (List.mem_cons_of_mem _ hy)
end
/-! ### Post -/
def Post {α : Type} (m : Res α) (Q : α → Prop) : Prop := ∃ a, m = .ok a ∧ Q a
section
variable {α β σ R : Type} {m : Res α} {P : α → Prop} {Q : β → Prop}
theorem Post.ok {a : α} (h : P a) : Post (.ok a) P := ⟨a, rfl, h⟩
theorem Post.bind {k : α → Res β} (h : Post m P) (hk : ∀ a, P a → Post (k a) Q) : Post (m.bind k) Q := by
  obtain ⟨a, rfl, h⟩ := h
  exact hk a h
theorem Post.eq {a : α} {k : α → Res β} (h : m = .ok a) (hk : Post (k a) Q) : Post (m.bind k) Q := by subst h; exact hk
theorem Post.noexn (h : Post m P) : Post (noexn m) P := by obtain ⟨a, rfl, h⟩ := h; exact ⟨a, rfl, h⟩
theorem Post.imp {P' : α → Prop} (h : Post m P) (i : ∀ a, P a → P' a) : Post m P' := by obtain ⟨a, e, h⟩ := h; exact ⟨a, e, i a h⟩
theorem Post.draw {f : D} {n : Int} {k : D × D → Res β} (hf : Feed f) (h0 : 0 < n) (h1 : n < 1073741824) (hk : ∀ (r : Int) (f' : D), Feed f' → 0 ≤ r → r < n → Post (k (.int r, f')) Q) : Post ((ckB (cellD f)).bind fun _ => (mDraw f (.int n)).bind k) Q := by
  obtain ⟨r, f', e, a, b, h⟩ := mDraw_ok hf h0 h1
  rw [hf.cell]
  simp only [ckB_true, Res.bind_ok, e]
  exact hk r f' h a b
theorem Post.ite {c : Prop} [Decidable c] {a b : Res α} (h1 : c → Post a P) (h2 : ¬ c → Post b P) : Post (if c then a else b) P := by
  split
  · exact h1 ‹_›
  · exact h2 ‹_›
theorem post_forN {f : D → σ → Res σ} {I : List D → σ → Prop} (step : ∀ d ds s, I (d :: ds) s → Post (f d s) (I ds)) : ∀ {l : List D} {s : σ}, I l s → Post (forN l s f) (I [])
  | [], s, h => ⟨s, rfl, h⟩
  | d :: ds, s, h => Post.bind (step d ds s h) fun s' h' => post_forN step h'
theorem post_forB {f : D → σ → Res (Stp σ R)} {I : List D → σ → Prop} {B : Stp σ R → Prop} (step : ∀ d ds s, I (d :: ds) s → Post (f d s) (fun r => match r with | .next s' => I ds s' | .brk s' => B (.next s') | .ret v => B (.ret v))) (hB : ∀ s, I [] s → B (.next s)) : ∀ {l : List D} {s : σ}, I l s → Post (forB l s f) B
  | [], s, h => ⟨_, rfl, hB s h⟩
  | d :: ds, s, h => Post.bind (step d ds s h) fun r h' => by
    cases r with
    | next s' => exact post_forB step hB h'
    | brk s' => exact ⟨_, rfl, h'⟩
    | ret v => exact ⟨_, rfl, h'⟩
/-- a comprehension that keeps some members -/
theorem post_filT {α : Type} [Emb α] {f : D → σ → Res (Option D × σ)} {I : σ → Prop} : ∀ {xs : List α} {s : σ}, (∀ x ∈ xs, ∀ s, I s → Post (f (emb x) s) (fun r => (r.1 = none ∨ r.1 = some (emb x)) ∧ I r.2)) → I s → Post (mFilS (xs.map emb) s f) (fun r => ∃ ys : List α, r.1 = ys.map emb ∧ ys.Sublist xs ∧ I r.2)
  | [], s, _, h => ⟨_, rfl, [], rfl, List.Sublist.slnil, h⟩
  | x :: xs, s, H, h => Post.bind (Post.noexn (H x List.mem_cons_self s h)) fun y hy => Post.bind (post_filT (fun x' hx => H x' (List.mem_cons_of_mem _ hx)) hy.2) fun ys hys => by
    obtain ⟨o, s'⟩ := y
    obtain ⟨ho, _⟩ := hy
    obtain ⟨zs, e, sub, hI⟩ := hys
    rcases ho with ho | ho
    · have ho : o = none := ho
      subst ho
      exact ⟨_, rfl, zs, by simpa [consO] using e, sub.cons x, hI⟩
    · have ho : o = some (emb x) := ho
      subst ho
      exact ⟨_, rfl, x :: zs, by simp [consO, e], sub.cons₂ x, hI⟩
inductive All2 (T : D → D → Prop) : List D → List D → Prop where
  | nil : All2 T [] []
  | cons {x y : D} {l m : List D} : T x y → All2 T l m → All2 T (x :: l) (y :: m)
theorem post_mapS {f : D → σ → Res (D × σ)} {I : σ → Prop} {T : D → D → Prop} : ∀ {l : List D} {s : σ}, (∀ d ∈ l, ∀ s, I s → Post (f d s) (fun r => T d r.1 ∧ I r.2)) → I s → Post (mMapS l s f) (fun r => All2 T l r.1 ∧ I r.2)
  | [], s, _, h => ⟨_, rfl, .nil, h⟩
  | d :: ds, s, H, h => Post.bind (Post.noexn (H d List.mem_cons_self s h)) fun y hy => Post.bind (post_mapS (fun d' hd => H d' (List.mem_cons_of_mem _ hd)) hy.2) fun ys hys => ⟨_, rfl, .cons hy.1 hys.1, hys.2⟩
theorem post_filS {f : D → σ → Res (Option D × σ)} {I : σ → Prop} {T : D → Prop} : ∀ {l : List D} {s : σ}, (∀ d ∈ l, ∀ s, I s → Post (f d s) (fun r => (∀ y, r.1 = some y → T y) ∧ I r.2)) → I s → Post (mFilS l s f) (fun r => (∀ y ∈ r.1, T y) ∧ r.1.length ≤ l.length ∧ I r.2)
  | [], s, _, h => ⟨_, rfl, by simp, by simp, h⟩
  | d :: ds, s, H, h => Post.bind (Post.noexn (H d List.mem_cons_self s h)) fun y hy => Post.bind (post_filS (fun d' hd => H d' (List.mem_cons_of_mem _ hd)) hy.2) fun ys hys => by
    obtain ⟨o, s'⟩ := y
    cases o with
    | none => exact ⟨_, rfl, hys.1, by simpa [consO] using Nat.le_succ_of_le hys.2.1, hys.2.2⟩
    | some z =>
      refine ⟨_, rfl, ?_, by simpa [consO] using hys.2.1, hys.2.2⟩
      intro w hw
      rcases List.mem_cons.mp hw with rfl | hw
      · exact hy.1 _ rfl
      · exact hys.1 w hw
theorem all2_typed {α : Type} [Emb α] {T : α → Prop} {l ys : List D} (h : All2 (fun _ y => ∃ a : α, y = emb a ∧ T a) l ys) : ∃ as : List α, ys = as.map emb ∧ as.length = l.length ∧ ∀ a ∈ as, T a := by
  induction h with
  | nil => exact ⟨[], rfl, rfl, by simp⟩
  | cons h1 _ ih =>
    obtain ⟨a, rfl, ta⟩ := h1
    obtain ⟨as, rfl, e, t⟩ := ih
    exact ⟨a :: as, rfl, by simp [e], fun z hz => (List.mem_cons.mp hz).elim (fun q => q ▸ ta) (t z)⟩
/-- a list drawn member by member: typed -/
theorem post_mapT {α : Type} [Emb α] {f : D → σ → Res (D × σ)} {I : σ → Prop} {T : α → Prop} {l : List D} {s : σ} (H : ∀ d ∈ l, ∀ s, I s → Post (f d s) (fun r => (∃ a, r.1 = emb a ∧ T a) ∧ I r.2)) (h : I s) : Post (mMapS l s f) (fun r => ∃ as : List α, r.1 = as.map emb ∧ as.length = l.length ∧ (∀ a ∈ as, T a) ∧ I r.2) := by
  refine (post_mapS (T := fun _ y => ∃ a : α, y = emb a ∧ T a) H h).imp fun r hr => ?_
  obtain ⟨as, h1, h2, h3⟩ := all2_typed hr.1
  exact ⟨as, h1, h2, h3, hr.2⟩
end
theorem cut_map {α β : Type} {f : α → β} {l : List α} {lo hi : Option Int} : cutA (l.map f) lo hi = (cutA l lo hi).map f := by
  unfold cutA; rw [List.length_map, List.map_take, List.map_drop]
@[simp] theorem dSlice_emb {α : Type} [Emb α] {l : List α} {lo hi : Option Int} : dSlice (.lst (l.map emb)) lo hi = some (.lst ((cutA l lo hi).map emb)) := by rw [dSlice_lst, cut_map]
theorem ups_snoc (i : Int) (n : Nat) : ups i (n + 1) = ups i n ++ [i + (n : Int)] := by
  induction n generalizing i with
  | zero => simp [ups]
  | succ n ih =>
    rw [ups, ih (i + 1)]
    simp only [ups, List.cons_append, Int.natCast_add]
    congr 3
    omega
/-! ### == of data -/
class EmbEq (α : Type) extends Emb α where
  ok : α → Prop
  dep : Nat
  good : ∀ a n, ok a → dep ≤ n → goodD n (emb a) = true
  eq : ∀ a b, ok a → ok b → (eqD (emb a) (emb b) = true ↔ a = b)
section
variable {α β γ δ : Type}
instance : EmbEq Int := { ok := fun _ => True, dep := 0, good := fun _ _ _ _ => by simp [emb, goodD], eq := fun a b _ _ => by simp [emb, eqD] }
instance : EmbEq Bool := { ok := fun _ => True, dep := 0, good := fun _ _ _ _ => by simp [emb, goodD], eq := fun a b _ _ => by simp [emb, eqD] }
instance : EmbEq Txt := { ok := fun l => ∀ c ∈ l, c < 1114112, dep := 0, good := fun a _ h _ => by simpa [emb, goodD] using h, eq := fun a b _ _ => by simp [emb, eqD] }
theorem eqDs_iff [EmbEq α] : ∀ {a b : List α}, (∀ x ∈ a, EmbEq.ok x) → (∀ x ∈ b, EmbEq.ok x) → (eqDs (a.map emb) (b.map emb) = true ↔ a = b)
  | [], [], _, _ => by simp [eqDs]
  | [], _ :: _, _, _ => by simp [eqDs]
  | _ :: _, [], _, _ => by simp [eqDs]
  | x :: a, y :: b, ha, hb => by
    have ih := eqDs_iff (a := a) (b := b) (fun z hz => ha z (List.mem_cons_of_mem _ hz)) (fun z hz => hb z (List.mem_cons_of_mem _ hz))
    have e := EmbEq.eq x y (ha x List.mem_cons_self) (hb y List.mem_cons_self)
    simp only [List.map_cons, eqDs, Bool.and_eq_true, ih, List.cons.injEq]
    rw [e]
theorem goodDs_of [EmbEq α] {n : Nat} (hn : EmbEq.dep α ≤ n) : ∀ {a : List α}, (∀ x ∈ a, EmbEq.ok x) → goodDs n (a.map emb) = true
  | [], _ => by simp [goodDs]
  | x :: a, ha => by
    simp only [List.map_cons, goodDs, Bool.and_eq_true]
    exact ⟨EmbEq.good x n (ha x List.mem_cons_self) hn, goodDs_of hn fun z hz => ha z (List.mem_cons_of_mem _ hz)⟩
instance [EmbEq α] : EmbEq (List α) :=
  { ok := fun l => ∀ x ∈ l, EmbEq.ok x, dep := EmbEq.dep α + 1
    good := fun a n h hn => by
      cases n with
      | zero => omega
      | succ n => simp only [emb, goodD]; exact goodDs_of (by omega) h
    eq := fun a b ha hb => by simp only [emb, eqD]; exact eqDs_iff ha hb }
instance [EmbEq α] : EmbEq (Tup α) :=
  { ok := fun l => ∀ x ∈ l.l, EmbEq.ok x, dep := EmbEq.dep α + 1
    good := fun a n h hn => by
      cases n with
      | zero => omega
      | succ n => simp only [emb, goodD]; exact goodDs_of (by omega) h
    eq := fun a b ha hb => by
      simp only [emb, eqD]; rw [eqDs_iff ha hb]
      cases a; cases b; simp }
instance [EmbEq α] [EmbEq β] : EmbEq (α × β) :=
  { ok := fun p => EmbEq.ok p.1 ∧ EmbEq.ok p.2, dep := max (EmbEq.dep α) (EmbEq.dep β) + 1
    good := fun a n h hn => by
      cases n with
      | zero => omega
      | succ n => simp only [emb, goodD, goodDs, Bool.and_eq_true, and_true]; exact ⟨EmbEq.good _ _ h.1 (by omega), EmbEq.good _ _ h.2 (by omega)⟩
    eq := fun a b ha hb => by
      simp only [emb, eqD, eqDs, Bool.and_eq_true, and_true, EmbEq.eq _ _ ha.1 hb.1, EmbEq.eq _ _ ha.2 hb.2]
      exact Prod.ext_iff.symm }
instance [EmbEq α] [EmbEq β] [EmbEq γ] : EmbEq (Tri α β γ) :=
  { ok := fun p => EmbEq.ok p.a ∧ EmbEq.ok p.b ∧ EmbEq.ok p.c, dep := max (EmbEq.dep α) (max (EmbEq.dep β) (EmbEq.dep γ)) + 1
    good := fun a n h hn => by
      cases n with
      | zero => omega
      | succ n => simp only [emb, goodD, goodDs, Bool.and_eq_true, and_true]; exact ⟨EmbEq.good _ _ h.1 (by omega), EmbEq.good _ _ h.2.1 (by omega), EmbEq.good _ _ h.2.2 (by omega)⟩
    eq := fun a b ha hb => by
      simp only [emb, eqD, eqDs, Bool.and_eq_true, and_true, EmbEq.eq _ _ ha.1 hb.1, EmbEq.eq _ _ ha.2.1 hb.2.1, EmbEq.eq _ _ ha.2.2 hb.2.2]
      cases a; cases b; simp }
theorem dEq_emb [EmbEq α] [DecidableEq α] {a b : α} (hd : EmbEq.dep α ≤ 60) (ha : EmbEq.ok a) (hb : EmbEq.ok b) : dEq (emb a) (emb b) = some (.bl (decide (a = b))) := by
  unfold dEq
  rw [if_pos (.inr ⟨EmbEq.good a 60 ha hd, EmbEq.good b 60 hb hd⟩)]
  congr 2
  rw [Bool.eq_iff_iff, EmbEq.eq a b ha hb]; simp
theorem dNe_emb [EmbEq α] [DecidableEq α] {a b : α} (hd : EmbEq.dep α ≤ 60) (ha : EmbEq.ok a) (hb : EmbEq.ok b) : dNe (emb a) (emb b) = some (.bl (!decide (a = b))) := by
  unfold dNe
  rw [if_pos (.inr ⟨EmbEq.good a 60 ha hd, EmbEq.good b 60 hb hd⟩)]
  congr 3
  rw [Bool.eq_iff_iff, EmbEq.eq a b ha hb]; simp
theorem anyEq_iff [EmbEq α] {x : α} (hx : EmbEq.ok x) : ∀ {l : List α}, (∀ y ∈ l, EmbEq.ok y) → (anyEq (emb x) (l.map emb) = true ↔ x ∈ l)
  | [], _ => by simp [anyEq]
  | y :: l, h => by
    simp only [List.map_cons, anyEq, Bool.or_eq_true, List.mem_cons]
    rw [EmbEq.eq y x (h y List.mem_cons_self) hx, anyEq_iff hx fun z hz => h z (List.mem_cons_of_mem _ hz)]
    exact or_congr ⟨Eq.symm, Eq.symm⟩ Iff.rfl
theorem dIn_emb [EmbEq α] [DecidableEq α] {x : α} {l : List α} (hd : EmbEq.dep α ≤ 59) (hx : EmbEq.ok x) (h : ∀ y ∈ l, EmbEq.ok y) : dIn (emb x) (.lst (l.map emb)) = some (.bl (decide (x ∈ l))) := by
  unfold dIn
  have e : dInB (emb x) (.lst (l.map emb)) = some (anyEq (emb x) (l.map emb)) := by
    have g : goodD 59 (emb x) = true ∧ goodDs 59 (l.map emb) = true := ⟨EmbEq.good x 59 hx hd, goodDs_of hd h⟩
    generalize emb x = d at g ⊢
    generalize l.map emb = L at g ⊢
    cases d <;> exact if_pos g
  rw [e]
  simp only [Option.map_some]
  congr 2
  rw [Bool.eq_iff_iff, anyEq_iff hx h]; simp
theorem dNotIn_emb [EmbEq α] [DecidableEq α] {x : α} {l : List α} (hd : EmbEq.dep α ≤ 59) (hx : EmbEq.ok x) (h : ∀ y ∈ l, EmbEq.ok y) : dNotIn (emb x) (.lst (l.map emb)) = some (.bl (!decide (x ∈ l))) := by
  have := dIn_emb (x := x) (l := l) hd hx h
  unfold dIn at this; unfold dNotIn
  cases hb : dInB (emb x) (.lst (l.map emb)) with
  | none => rw [hb] at this; cases this
  | some k => rw [hb] at this; simp only [Option.map_some, Option.some.injEq, D.bl.injEq] at this ⊢; rw [this]
theorem dEq_self [EmbEq α] [DecidableEq α] {a : α} (hd : EmbEq.dep α ≤ 60) (ha : EmbEq.ok a) : dEq (emb a) (emb a) = some (.bl true) := by rw [dEq_emb hd ha ha]; simp
theorem dNe_self [EmbEq α] [DecidableEq α] {a : α} (hd : EmbEq.dep α ≤ 60) (ha : EmbEq.ok a) : dNe (emb a) (emb a) = some (.bl false) := by rw [dNe_emb hd ha ha]; simp
theorem dIx_nat [Emb α] {l : List α} {k : Nat} (h : k < l.length) : dIx (.lst (l.map emb)) (.int (k : Nat)) = some (emb l[k]) := by
  rw [dIx_lst, atI_map, atI_nat h]; rfl
theorem dIx_int [Emb α] {l : List α} {i : Int} (h0 : 0 ≤ i) (h : i < l.length) : ∃ x, dIx (.lst (l.map emb)) (.int i) = some (emb x) ∧ x ∈ l := by
  obtain ⟨x, e, m⟩ := atI_all h0 h
  exact ⟨x, by rw [dIx_lst, atI_map, e]; rfl, m⟩
theorem dIx_last [Emb α] {l : List α} (h : l ≠ []) : dIx (.lst (l.map emb)) (.int (-1)) = some (emb (l.getLast h)) := by
  rw [dIx_lst, atI_map, atI_getLast h]; rfl
theorem dAdd_lsts [Emb α] {a b : List α} (h : a.length + b.length ≤ 16777216) : dAdd (.lst (a.map emb)) (.lst (b.map emb)) = some (.lst ((a ++ b).map emb)) := by
  rw [dAdd_lst (by simpa using h)]; simp
theorem dAdd_one [Emb α] {a : List α} {x : α} {d : D} (e : d = emb x) (h : a.length < 16777216) : dAdd (.lst (a.map emb)) (.lst [d]) = some (.lst ((a ++ [x]).map emb)) := by
  subst e; rw [dAdd_lst (by simp; omega)]; simp
theorem mAppend_emb [Emb α] {a : List α} {x : α} {d : D} (e : d = emb x) (h : a.length < 16777216) : mAppend (a.map emb) [d] = some ((a ++ [x]).map emb, .non) := by
  subst e; rw [mAppend_one (by simpa using h)]; simp
/-- a loop that appends to a list what some members tell -/
theorem forN_app {α β : Type} [Emb β] {g : α → D} {c : α → Bool} {h : α → β} {f : D → D → Res D} : ∀ {l : List α} {F : List β}, F.length + l.length ≤ 16777216 → (∀ x ∈ l, ∀ F : List β, F.length < 16777216 → f (g x) (.lst (F.map emb)) = .ok (.lst ((if c x = true then F ++ [h x] else F).map emb))) → forN (l.map g) (.lst (F.map emb)) f = .ok (.lst ((F ++ (l.filter c).map h).map emb))
  | [], F, _, _ => by simp
  | x :: l, F, hl, H => by
    have hl' : F.length + (l.length + 1) ≤ 16777216 := by simpa using hl
    rw [List.map_cons, forN_cons, H x List.mem_cons_self F (by omega), Res.bind_ok, forN_app (c := c) (h := h) (by split <;> (try simp) <;> omega) fun y hy => H y (List.mem_cons_of_mem _ hy)]
    rw [List.filter_cons]
    split <;> simp
theorem foldl_count2 {α : Type} {p q : α → Bool} : ∀ {l : List α} {a b : Int}, l.foldl (fun (s : Int × Int) x => if p x = true then (s.1 + 1, s.2) else if q x = true then (s.1, s.2 + 1) else s) (a, b) = (a + ((l.filter p).length : Nat), b + ((l.filter fun x => !p x && q x).length : Nat))
  | [], a, b => by simp
  | x :: l, a, b => by
    rw [List.foldl_cons]
    cases hp : p x
    · rw [if_neg (by simp)]
      cases hq : q x
      · rw [if_neg (by simp), foldl_count2]; simp [List.filter_cons, hp, hq]
      · rw [if_pos rfl, foldl_count2]; simp [List.filter_cons, hp, hq]; omega
    · rw [if_pos rfl, foldl_count2]; simp [List.filter_cons, hp]; omega
abbrev Yes (r : D × D) : Prop := r.1 = .bl true ∧ Feed r.2
abbrev Nx {R : Type} (r : Stp D R) : Prop := ∃ f, r = .next f ∧ Feed f
theorem feed0 (ns : List Int) : Feed (fd ns 0 0 1) := ⟨ns, 0, 0, 1, rfl, by omega, by omega, by omega, by omega⟩
@[simp] theorem dIn_int {x : Int} {l : List Int} : dIn (.int x) (.lst (l.map emb)) = some (.bl (decide (x ∈ l))) := dIn_emb (x := x) (by decide) trivial fun _ _ => trivial
@[simp] theorem dNotIn_int {x : Int} {l : List Int} : dNotIn (.int x) (.lst (l.map emb)) = some (.bl (!decide (x ∈ l))) := dNotIn_emb (x := x) (by decide) trivial fun _ _ => trivial
@[simp] theorem dEq_ints {a b : List Int} : dEq (.lst (a.map emb)) (.lst (b.map emb)) = some (.bl (decide (a = b))) := dEq_emb (a := a) (b := b) (by decide) (fun _ _ => trivial) (fun _ _ => trivial)
@[simp] theorem dNe_ints {a b : List Int} : dNe (.lst (a.map emb)) (.lst (b.map emb)) = some (.bl (!decide (a = b))) := dNe_emb (a := a) (b := b) (by decide) (fun _ _ => trivial) (fun _ _ => trivial)
@[simp] theorem dEq_non_int {i : Int} : dEq .non (.int i) = some (.bl false) := rfl
@[simp] theorem dEq_int_non {i : Int} : dEq (.int i) .non = some (.bl false) := rfl
@[simp] theorem dNe_non_int {i : Int} : dNe .non (.int i) = some (.bl true) := rfl
@[simp] theorem dNe_int_non {i : Int} : dNe (.int i) .non = some (.bl true) := rfl
@[simp] theorem dEq_non_non : dEq .non .non = some (.bl true) := rfl
@[simp] theorem dNe_non_non : dNe .non .non = some (.bl false) := rfl
end
@[simp] theorem bmap {l : List Int} : l.map D.int = l.map emb := rfl
end VL
namespace VL
open PySem PySem.Spec PyProof.Rows L2 VL.Emb
/-- a walk that breaks off at the first item of a kind -/
theorem forB_brk {α σ R : Type} {g : α → D} {f : D → σ → Res (Stp σ R)} {s : σ} {c : α → Bool} {v : α → σ} : ∀ {l : List α}, (∀ x ∈ l, f (g x) s = .ok (if c x = true then .brk (v x) else .next s)) → forB (l.map g) s f = .ok (.next (match l.find? c with | some x => v x | none => s))
  | [], _ => rfl
  | x :: r, H => by
    rw [List.map_cons, forB_cons, H x List.mem_cons_self, List.find?_cons]
    cases hc : c x with
    | true => rfl
    | false => exact forB_brk fun y hy => H y (List.mem_cons_of_mem _ hy)
theorem enum_ups {α : Type} [Emb α] {z : α} {l : List α} : enumD 0 (l.map emb) = (ups 0 l.length).map fun k => .tup [.int k, emb (l.getD k.toNat z)] := by
  have key : ∀ (l : List α) (k : Nat) (m : List α), m.length = k → enumD k (l.map emb) = (ups (k : Nat) l.length).map fun i => .tup [.int i, emb ((m ++ l).getD i.toNat z)] := by
    intro l
    induction l with
    | nil => intro k m _; rfl
    | cons x r ih =>
      intro k m hm
      simp only [List.map_cons, enumD_cons, List.length_cons, ups]
      have := ih (k + 1) (m ++ [x]) (by simp [hm])
      rw [this]
      congr 1
      · congr 2; rw [List.getD_eq_getElem?_getD, Int.toNat_natCast, List.getElem?_append_right (by omega), hm]; simp
      · rw [List.append_assoc]; rfl
  exact key l 0 [] rfl
theorem sortedA_tup {l : List D} (h1 : l.all tupD = true) (h2 : goodDs 59 l = true) (h3 : alikeD l = true) : fSortedA [.lst l] = some (.lst (l.mergeSort leD)) := by
  have e2 : fSortD [.lst l] = some (.lst (l.mergeSort leD)) := by
    have ok : okSort l = true := by unfold okSort; rw [h1, h2, h3]; rfl
    exact if_pos ok
  unfold fSortedA
  cases l with
  | nil => simp [sortI, intsOf]
  | cons x r =>
    have hx : fSorted [.lst (x :: r)] = none := by
      simp only [List.all_cons, Bool.and_eq_true] at h1
      cases x <;> first | (cases h1.1; done) | rfl
    rw [hx]
    exact e2
end VL
namespace VL
open PySem PySem.Spec PyProof.Rows L2 VL.Emb
/-- a loop that hangs a list on for each item -/
theorem forN_flat {α β : Type} [Emb β] {g : α → D} {h : α → List β} {f : D → D → Res D} {b : Nat} : ∀ {l : List α} {F : List β}, F.length + l.length * b ≤ 16777216 → (∀ x ∈ l, (h x).length ≤ b) → (∀ x ∈ l, ∀ F : List β, F.length + b ≤ 16777216 → f (g x) (.lst (F.map emb)) = .ok (.lst ((F ++ h x).map emb))) → forN (l.map g) (.lst (F.map emb)) f = .ok (.lst ((F ++ l.flatMap h).map emb))
  | [], F, _, _, _ => by simp
  | x :: l, F, hl, hb, H => by
    have e : (l.length + 1) * b = l.length * b + b := by rw [Nat.add_mul, Nat.one_mul]
    have hl' : F.length + (l.length * b + b) ≤ 16777216 := by rw [← e]; simpa using hl
    have hx := hb x List.mem_cons_self
    rw [List.map_cons, forN_cons, H x List.mem_cons_self F (by omega), Res.bind_ok, forN_flat (b := b) (h := h) (by rw [List.length_append]; omega) (fun y hy => hb y (List.mem_cons_of_mem _ hy)) fun y hy => H y (List.mem_cons_of_mem _ hy)]
    simp
theorem mExtend_emb {α : Type} [Emb α] {a b : List α} (h : a.length + b.length ≤ 16777216) : mExtend (a.map emb) [.lst (b.map emb)] = some ((a ++ b).map emb, .non) := by
  have : mExtend (a.map emb) [.lst (b.map emb)] = some (a.map emb ++ b.map emb, .non) := if_pos (by simpa using h)
  rw [this]; simp
theorem ixS {p : List Nat} {x : Int} (h0 : 0 ≤ x) (h : x < p.length) (hl : p.length ≤ 16777216) : dIx (.str p) (.int x) = some (.str [p.getD x.toNat 0]) := by
  show (if p.length ≤ 16777216 then (atI p x).map fun c => D.str [c] else none) = _
  rw [if_pos hl]
  unfold atI
  rw [ixN_pos h0 h, Option.bind_some, List.getD_eq_getElem?_getD, List.getElem?_eq_getElem (by omega)]; rfl
@[simp] theorem fTuple_emb {α : Type} [Emb α] {l : List α} : fTuple [.lst (l.map emb)] = some (.tup (l.map emb)) := rfl
theorem ups_nodup : ∀ (n : Nat) (i : Int), (ups i n).Nodup
  | 0, i => by simp [ups]
  | n + 1, i => by
    rw [ups, List.nodup_cons]
    exact ⟨fun h => by rw [mem_ups] at h; omega, ups_nodup n (i + 1)⟩
theorem ups_inc : ∀ (n : Nat) (a : Int), (ups a n).Pairwise (· < ·)
  | 0, a => .nil
  | n + 1, a => by
    rw [ups, List.pairwise_cons]
    exact ⟨fun x hx => by rw [mem_ups] at hx; omega, ups_inc n (a + 1)⟩
theorem ups_get : ∀ (n i : Nat) (a : Int), i < n → (ups a n)[i]? = some (a + i)
  | 0, i, a, h => by omega
  | n + 1, 0, a, h => by simp [ups]
  | n + 1, i + 1, a, h => by
    simp only [ups, List.getElem?_cons_succ]
    rw [ups_get n i (a + 1) (by omega)]; congr 1; omega
end VL

set_option Elab.async false
set_option linter.all false
set_option maxRecDepth 100000
/-! VQ: the Sim layer of dicts. -/
namespace VL
open PySem PySem.Spec PyProof.Rows L2
def setKR : D → D → D → Res D
  | .lst l, .int n, v => match ixN l.length n with
    | some j => .ok (.lst (l.set j v))
    | none => .bad
  | .dct l, k, v => if isKey k = true ∧ l.length < 16777216 then .ok (.dct (putD l k v)) else .bad
  | _, _, _ => .bad
def lckR : D → Res D
  | .dct l => .ok (.lck l)
  | _ => .bad
def dct1R (k v : D) : Res D := if isKey k = true then .ok (.dct [(k, v)]) else .bad
section
variable {ρ : Env} {k : Es}
theorem sSetIxK_q (i : Nat) (fi fe : Ev) : sSetIxK i fi fe ρ = (fe ρ).bind fun r => (gv r.2 i).bind fun _ => (fi r.2).bind fun n => (gv n.2 i).bind fun d => (setKR d n.1 r.1).bind fun d' => .ok (.next (n.2.set i (some d'))) := by
  unfold sSetIxK; congr 1; funext r; congr 1; funext _; congr 1; funext n; congr 1; funext d
  cases d <;> first | rfl | skip
  · cases h : n.1 <;> first | rfl | skip
    rename_i l z
    dsimp only [setKR]
    cases ixN l.length z <;> rfl
  · dsimp only [setKR]
    split <;> rfl
theorem sq_setIxK (i : Nat) (fi fe : Ev) : sSeq (sSetIxK i fi fe) k ρ = (fe ρ).bind fun r => (gv r.2 i).bind fun _ => (fi r.2).bind fun n => (gv n.2 i).bind fun d => (setKR d n.1 r.1).bind fun d' => app k (n.2.set i (some d')) := by
  rw [sSeq_ap, sSetIxK_q]; simp only [Res.bind_assoc, Res.bind_ok]; rfl
theorem sl_lk (i : Nat) (eb : Es) : sLk i eb ρ = (gv ρ i).bind fun d => (lckR d).bind fun d' => eb (ρ.set i (some d')) := by
  unfold sLk; congr 1; funext d; cases d <;> rfl
theorem sq_lk (i : Nat) (eb : Es) : sSeq (sLk i eb) k ρ = (gv ρ i).bind fun d => (lckR d).bind fun d' => sSeq eb k (ρ.set i (some d')) := by
  show (sLk i eb ρ).bind _ = _
  rw [sl_lk]; simp only [Res.bind_assoc]; rfl
theorem eKeys_q (f : Ev) : eKeys f ρ = (f ρ).bind fun r => (keysR r.1).bind fun l => .ok (l, r.2) := rfl
theorem eDct0_q : eDct0 ρ = .ok (.dct [], ρ) := rfl
theorem eDct1_q (fk fv : Ev) : eDct1 fk fv ρ = (fk ρ).bind fun a => (fv a.2).bind fun b => (dct1R a.1 b.1).bind fun d => .ok (d, b.2) := by
  unfold eDct1 dct1R; congr 1; funext a; congr 1; funext b; split <;> rfl
theorem eRev_q (oa : Opd) : eRev oa ρ = (oa.run ρ).bind fun p => (oa.fin p.1 p.2).bind fun da => (opt (dRev da)).bind fun d => .ok (d, p.2) := rfl
end
@[simp] theorem lckR_dct {l : List (D × D)} : lckR (.dct l) = .ok (.lck l) := rfl
@[simp] theorem keysR_lck {l : List (D × D)} : keysR (.lck l) = .ok (l.map (·.1)) := rfl
end VL

set_option Elab.async false
set_option linter.all false
set_option maxRecDepth 100000
/-! VT: the Sim layer of what is told and changed where it stands. -/
namespace VL
open PySem PySem.Spec PyProof.Rows L2
def capL (us : List D) (n : Nat) : Res Unit := if us.length + n ≤ 16777216 then .ok () else .bad
def frA {σ τ : Type} (r : Stp σ D) (k : σ → Res τ) : Res (Stp τ D) := match r with
  | .next s => (k s).bind fun t => .ok (.next t)
  | .brk _ => .bad
  | .ret v => if scaD v = true then .ok (.ret v) else .bad
@[simp] theorem frA_next {σ τ : Type} {s : σ} {k : σ → Res τ} : frA (.next s) k = (k s).bind fun t => .ok (.next t) := rfl
@[simp] theorem frA_ret {σ τ : Type} {v : D} {k : σ → Res τ} : frA (.ret v) k = if scaD v = true then .ok (.ret v) else .bad := rfl
theorem putL_nil {ρ e : Env} : putL [] ρ e = .ok e := rfl
theorem putL_cons {j : Nat} {js : List Nat} {ρ e : Env} : putL (j :: js) ρ e = (gv ρ j).bind fun d => (ckB (pure1 d)).bind fun _ => putL js ρ (e.set j (some d)) := by
  show ((gv ρ j).bind fun d => if pure1 d = true then _ else .bad) = _
  congr 1; funext d; exact if_ckB
theorem putK_nil {ρ e : Env} : putK [] ρ e = .ok e := rfl
theorem putK_cons {j : Nat} {js : List Nat} {ρ e : Env} : putK (j :: js) ρ e = (gv ρ j).bind fun d => (ckB (scaD d)).bind fun _ => putK js ρ (e.set j (some d)) := by
  show ((gv ρ j).bind fun d => if scaD d = true then _ else .bad) = _
  congr 1; funext d; exact if_ckB
theorem isSet_nil {ρ : Env} : isSet [] ρ = .ok () := rfl
theorem isSet_cons {j : Nat} {js : List Nat} {ρ : Env} : isSet (j :: js) ρ = (gv ρ j).bind fun _ => isSet js ρ := rfl
/-- behind the block -/
def frK (As Ks : List Nat) (i k n : Nat) (Js : List Nat) (ρ : Env) (told : D) (ρ2 : Env) : Res Env := (putK Ks ρ2 (wipeE ρ (i :: As))).bind fun ρ3 => (isSet Js ρ3).bind fun _ => (getL told k).bind fun us => (capL us n).bind fun _ => .ok ρ3
theorem sim_fr {σ τ : Type} {i k n : Nat} {As Ls Ks Js : List Nat} {ev : Ev} {eb : Es} {ρ ρb : Env} {mL : Res Unit} {mc : Res D} {mb : D → Res (Stp σ D)} {mk : D → σ → Res τ} {P : D → σ → Env → Prop} {P' : τ → Env → Prop}
    (h1 : Sim mL (putL Ls ρ (ρ.map fun _ => none)) (fun _ b => b = ρb)) (h2 : Sim mc (ev ρb) (fun a b => b.1 = a)) (h3 : ∀ told, Sim (mb told) (eb (ρ.set i (some told))) (QF RR0 (P told)))
    (h4 : ∀ told s ρ2, P told s ρ2 → Sim (mk told s) (frK As Ks i k n Js ρ told ρ2) P') :
    Sim (mL.bind fun _ => (noexn mc).bind fun told => (noexn (mb told)).bind fun r => frA r fun s => mk told s) (sFr i As Ls Ks ev eb k n Js ρ) (QF RR0 P') := by
  unfold sFr
  refine Sim.bind h1 ?_
  rintro _ _ rfl
  refine Sim.bind (Sim.noexn h2) ?_
  rintro told b rfl
  refine Sim.bind (Sim.noexn (h3 b.1)) ?_
  intro r fl q
  cases r with
  | brk _ => exact q.elim
  | ret v =>
    obtain ⟨d, ρ2, rfl, e⟩ := q
    have e : v = d := e
    subst e
    show Sim (if scaD v = true then _ else _) (if scaD v = true then _ else _) _
    refine Sim.ite ?_ trivial
    exact ⟨_, rfl, v, _, rfl, rfl⟩
  | next s =>
    obtain ⟨ρ2, rfl, p⟩ := q
    have h4 := h4 b.1 s ρ2 p
    have e : ((putK Ks ρ2 (wipeE ρ (i :: As))).bind fun ρ3 => (isSet Js ρ3).bind fun _ => (getL b.1 k).bind fun us => if us.length + n ≤ 16777216 then Res.ok (Fl.next ρ3) else Res.bad) = (frK As Ks i k n Js ρ b.1 ρ2).bind fun ρ3 => .ok (Fl.next ρ3) := by
      unfold frK
      simp only [Res.bind_assoc]
      congr 1; funext ρ3; congr 1; funext _; congr 1; funext us
      unfold capL
      split <;> rfl
    show Sim ((mk b.1 s).bind fun t => Res.ok (Stp.next t : Stp τ D)) ((putK Ks ρ2 (wipeE ρ (i :: As))).bind fun ρ3 => (isSet Js ρ3).bind fun _ => (getL b.1 k).bind fun us => if us.length + n ≤ 16777216 then Res.ok (Fl.next ρ3) else Res.bad) _
    rw [e]
    refine Sim.bind h4 ?_
    intro t ρ3 q
    exact ⟨_, rfl, ρ3, rfl, q⟩
theorem sq_fr {i k n : Nat} {As Ls Ks Js : List Nat} {ev : Ev} {eb ek : Es} {ρ : Env} : sSeq (sFr i As Ls Ks ev eb k n Js) ek ρ = (sFr i As Ls Ks ev eb k n Js ρ).bind (fk ek) := by
  rw [sSeq_ap]
  congr 1
end VL

set_option Elab.async false
set_option linter.all false
set_option maxRecDepth 100000
/-! VO: more of the plain layer: counts of filters, optional numbers, pairs in order. -/
namespace VL
open PySem PySem.Spec PyProof.Rows L2 VL.Emb
theorem find_all {α : Type} {l : List α} {c : α → Bool} : (∃ x, l.find? (fun x => !c x) = some x ∧ l.all c = false) ∨ (l.find? (fun x => !c x) = none ∧ l.all c = true) := by
  cases hf : l.find? (fun x => !c x) with
  | none =>
    right; refine ⟨rfl, ?_⟩
    rw [List.find?_eq_none] at hf
    rw [List.all_eq_true]; intro x hx; simpa using hf x hx
  | some x =>
    left; refine ⟨x, rfl, ?_⟩
    have h1 := List.find?_some hf
    have h2 := List.mem_of_find?_eq_some hf
    rw [Bool.eq_false_iff]; intro ha
    rw [List.all_eq_true] at ha
    rw [ha x h2] at h1; cases h1
theorem filtA {α : Type} {l : List α} {p : α → Bool} : ((((l.filter p).length : Nat) : Int) != ((l.length : Nat) : Int)) = !l.all p := by
  rw [Bool.eq_iff_iff]
  simp only [bne_iff_ne, ne_eq, Bool.not_eq_true', Bool.eq_false_iff, List.all_eq_true]
  exact not_congr ⟨fun h => List.length_filter_eq_length_iff.mp (by omega), fun h => by rw [List.length_filter_eq_length_iff.mpr h]⟩
theorem filtL {α : Type} {l : List α} {p : α → Bool} : decide ((((l.filter p).length : Nat) : Int) < ((l.length : Nat) : Int)) = !l.all p := by
  have h1 := List.length_filter_le p l
  rw [← filtA, Bool.eq_iff_iff, decide_eq_true_eq, bne_iff_ne]
  omega
theorem filtE {α : Type} {l : List α} {p : α → Bool} : ((((l.filter p).length : Nat) : Int) == ((l.length : Nat) : Int)) = l.all p := by
  have h1 := filtA (l := l) (p := p)
  rw [bne] at h1
  rw [← Bool.not_inj_iff]; exact h1
theorem filt0 {α : Type} {l : List α} {p : α → Bool} : ((((l.filter p).length : Nat) : Int) == 0) = !l.any p := by
  rw [Bool.eq_iff_iff]
  simp only [beq_iff_eq, Bool.not_eq_true', List.any_eq_false]
  constructor
  · intro h x hx
    have h : (l.filter p).length = 0 := by omega
    exact List.filter_eq_nil_iff.mp (List.length_eq_zero_iff.mp h) x hx
  · intro h
    have : l.filter p = [] := List.filter_eq_nil_iff.mpr fun x hx => h x hx
    rw [this]; rfl
theorem filtP {α : Type} {l : List α} {p : α → Bool} : decide ((0 : Int) < ((l.filter p).length : Nat)) = l.any p := by
  rw [Bool.eq_iff_iff, decide_eq_true_eq, List.any_eq_true]
  constructor
  · intro h
    obtain ⟨x, hx⟩ := List.exists_mem_of_ne_nil (l.filter p) (fun e => by rw [e] at h; simp at h)
    rw [List.mem_filter] at hx; exact ⟨x, hx⟩
  · rintro ⟨x, h⟩
    have := List.length_pos_of_mem (List.mem_filter.mpr h)
    omega
theorem filt_snoc {p : Int → Bool} {k : Nat} : (ups 0 (k + 1)).filter p = (ups 0 k).filter p ++ cond (p k) [(k : Int)] [] := by
  rw [ups_snoc, List.filter_append, Int.zero_add, List.filter_cons, List.filter_nil]
  cases p k <;> rfl
theorem typed_list {α : Type} [Emb α] {P : α → Prop} : ∀ {l : List D}, (∀ y ∈ l, ∃ p : α, y = emb p ∧ P p) → ∃ as : List α, l = as.map emb ∧ ∀ a ∈ as, P a
  | [], _ => ⟨[], rfl, by simp⟩
  | d :: l, h => by
    obtain ⟨p, e, hp⟩ := h d List.mem_cons_self
    obtain ⟨as, e2, h2⟩ := typed_list fun y hy => h y (List.mem_cons_of_mem _ hy)
    exact ⟨p :: as, by rw [e, e2]; rfl, fun a ha => (List.mem_cons.mp ha).elim (fun q => q ▸ hp) (h2 a)⟩
theorem cut_sub {α : Type} {l : List α} {lo hi : Option Int} : ∀ x ∈ cutA l lo hi, x ∈ l := fun x hx => by
  unfold cutA at hx
  exact List.mem_of_mem_drop (List.mem_of_mem_take hx)
theorem cut_len {α : Type} {l : List α} {lo hi : Option Int} : (cutA l lo hi).length ≤ l.length := by
  unfold cutA; rw [List.length_take, List.length_drop]; omega
theorem cut_last {α : Type} {l : List α} : cutA l (some (-1)) none = l.drop (l.length - 1) := by
  unfold cutA HT.sIx
  simp only []
  by_cases h : l.length = 0
  · have : l = [] := List.length_eq_zero_iff.mp h
    subst this; rfl
  · rw [List.take_of_length_le]
    · congr 1; simp; omega
    · simp
theorem ixI {l : List Int} {k : Int} (h0 : 0 ≤ k) (h : k < l.length) : dIx (.lst (l.map emb)) (.int k) = some (.int (l.getD k.toNat 0)) := by
  rw [dIx_lst, atI_map, atI_pos h0 (by omega)]
  rw [List.getD_eq_getElem?_getD, List.getElem?_eq_getElem (by omega)]; rfl
theorem ixL {l : List Int} (h : l.length ≠ 0) : dIx (.lst (l.map emb)) (.int (-1)) = some (.int (l.getD (l.length - 1) 0)) := by
  have hn : l ≠ [] := fun e => h (by rw [e]; rfl)
  rw [dIx_last hn]
  rw [List.getD_eq_getElem?_getD, List.getElem?_eq_getElem (by omega), List.getLast_eq_getElem]; rfl
theorem ixO {l : List (Option Int)} {k : Int} (h0 : 0 ≤ k) (h : k < l.length) : dIx (.lst (l.map emb)) (.int k) = some (emb (l.getD k.toNat none)) := by
  rw [dIx_lst, atI_map, atI_pos h0 (by omega)]
  rw [List.getD_eq_getElem?_getD, List.getElem?_eq_getElem (by omega)]; rfl
theorem isnon (o : Option Int) : isNonD (emb o) = o.isNone := by cases o <;> rfl
instance : EmbEq (Option Int) := { ok := fun _ => True, dep := 0, good := fun a _ _ _ => by cases a <;> simp [emb, goodD], eq := fun a b _ _ => by cases a <;> cases b <;> simp [emb, eqD] }
def inO : Option Int → List Int → Bool
  | none, _ => false
  | some x, l => decide (x ∈ l)
theorem dIn_oi {o : Option Int} {l : List Int} : dIn (emb o) (.lst (l.map emb)) = some (.bl (inO o l)) := by
  have := dIn_emb (α := Option Int) (x := o) (l := l.map some) (by decide) trivial fun _ _ => trivial
  rw [List.map_map] at this
  have e : (emb ∘ some : Int → D) = emb := rfl
  rw [e] at this
  rw [this]
  cases o with
  | none => simp [inO]
  | some x => simp [inO]
theorem mapForN {α σ : Type} {g : α → D} {f : D → σ → Res σ} : ∀ {l : List α} {s : σ} {r : Res σ}, forN (l.map g) s f = r → forN (l.map g) s f = r := fun h => h
/-! pairs in order -/
def lt2 (a b : Int × Int) : Bool := decide (a.1 < b.1 ∨ (a.1 = b.1 ∧ a.2 < b.2))
theorem lt2_iff {a b : Int × Int} : lt2 a b = true ↔ a.1 < b.1 ∨ (a.1 = b.1 ∧ a.2 < b.2) := by unfold lt2; simp
theorem lt2_irr (a : Int × Int) : lt2 a a = false := by unfold lt2; simp
theorem lt2_trans {a b c : Int × Int} (h1 : lt2 a b = true) (h2 : lt2 b c = true) : lt2 a c = true := by rw [lt2_iff] at *; omega
theorem lt2_total {a b : Int × Int} (h : a ≠ b) : lt2 a b = !lt2 b a := by
  have : ¬ (a.1 = b.1 ∧ a.2 = b.2) := fun e => h (Prod.ext e.1 e.2)
  cases h1 : lt2 a b <;> cases h2 : lt2 b a <;> simp only [Bool.not_true, Bool.not_false]
  · have : ¬ (a.1 < b.1 ∨ (a.1 = b.1 ∧ a.2 < b.2)) := fun e => by rw [lt2_iff.mpr e] at h1; cases h1
    have : ¬ (b.1 < a.1 ∨ (b.1 = a.1 ∧ b.2 < a.2)) := fun e => by rw [lt2_iff.mpr e] at h2; cases h2
    omega
  · rw [lt2_iff] at h1 h2; omega
/-- a list in a strict order is the only one with its members -/
theorem ord_uniq {α : Type} {lt : α → α → Bool} (tot : ∀ a b, a ≠ b → lt a b = !lt b a) : ∀ {l m : List α}, l.Perm m → l.Pairwise (fun a b => lt a b = true) → m.Pairwise (fun a b => lt a b = true) → l = m
  | [], m, h, _, _ => by rw [List.nil_perm.mp h]
  | x :: r, [], h, _, _ => by have := h.length_eq; simp at this
  | x :: r, y :: t, h, ha, hb => by
    rw [List.pairwise_cons] at ha hb
    have e : x = y := by
      have h1 : x ∈ y :: t := h.mem_iff.mp List.mem_cons_self
      have h2 : y ∈ x :: r := h.mem_iff.mpr List.mem_cons_self
      refine Classical.byContradiction fun hn => ?_
      have a1 : lt x y = true := by
        rcases List.mem_cons.mp h2 with e | hm
        · exact absurd e.symm hn
        · exact ha.1 y hm
      have a2 : lt y x = true := by
        rcases List.mem_cons.mp h1 with e | hm
        · exact absurd e hn
        · exact hb.1 x hm
      rw [tot x y hn, a2] at a1; cases a1
    subst e
    rw [ord_uniq tot ((List.perm_cons _).mp h) ha.2 hb.2]
/-- sorting by a strict order -/
theorem ord_sort {α : Type} {lt : α → α → Bool} (tot : ∀ a b, a ≠ b → lt a b = !lt b a) (irr : ∀ a, lt a a = false) (tr : ∀ a b c, lt a b = true → lt b c = true → lt a c = true) {l X : List α} (nd : l.Nodup) (hp : X.Pairwise (fun a b => lt a b = true)) (hm : ∀ x, x ∈ l ↔ x ∈ X) : l.mergeSort (fun a b => !lt b a) = X := by
  classical
  have pm : (l.mergeSort fun a b => !lt b a).Perm l := List.mergeSort_perm _ _
  have sd := List.pairwise_mergeSort (le := fun a b => !lt b a) (fun a b c h1 h2 => by
    simp only [Bool.not_eq_true'] at *
    by_cases hab : a = b
    · subst hab; exact h2
    · by_cases hbc : b = c
      · subst hbc; exact h1
      · rw [tot _ _ (fun e => hab e.symm), Bool.not_eq_false'] at h1
        rw [tot _ _ (fun e => hbc e.symm), Bool.not_eq_false'] at h2
        have := tr _ _ _ h1 h2
        by_cases hac : c = a
        · subst hac; exact irr _
        · rw [tot _ _ hac, this]; rfl) (fun a b => by
    by_cases h : a = b
    · subst h; simp [irr]
    · rw [tot _ _ h]; cases lt b a <;> rfl) l
  have nds : (l.mergeSort fun a b => !lt b a).Nodup := pm.nodup_iff.mpr nd
  have sl := (List.Pairwise.and sd nds).imp fun {a b} ⟨h1, h2⟩ => by
    show lt a b = true
    rw [tot _ _ h2]; exact h1
  have ndX : X.Nodup := hp.imp fun {a b} h e => by subst e; rw [irr] at h; cases h
  have pX : (l.mergeSort fun a b => !lt b a).Perm X := (List.perm_ext_iff_of_nodup nds ndX).mpr fun x => by rw [pm.mem_iff, hm]
  exact ord_uniq tot pX sl hp
theorem lt_pair (a b a' b' : Int) : PySem.W.dataLt (.tuple [.int a, .int b]) (.tuple [.int a', .int b']) = decide (a < a' ∨ (a = a' ∧ b < b')) := by
  have al : ∀ x y : Int, PySem.W.alike (.int x) (.int y) = true := fun x y => by simp [PySem.W.alike]
  rw [PySem.W.dataLt_tuple, PySem.W.dataLt_cons (al _ _), PySem.W.dataLt_cons (al _ _)]
  have e : PyProof.Rows.lexLt itemOrd (PySem.W.keyToksAll []) (PySem.W.keyToksAll []) = false := lex_irrefl _
  rw [e, PySem.W.dataLt_int, PySem.W.dataLt_int]
  simp only [PyData.eqv, beq_iff_eq]
  by_cases h1 : a = a' <;> by_cases h2 : b = b' <;> simp [h1, h2]
theorem le_pair {a b : Int × Int} : leD (emb a) (emb b) = !lt2 b a := by
  show (!PySem.W.dataLt (.tuple [.int _, .int _]) (.tuple [.int _, .int _])) = _
  rw [lt_pair]; rfl
theorem sort_pairs {l X : List (Int × Int)} (hp : X.Pairwise (fun a b => lt2 a b = true)) (nd : l.Nodup) (hm : ∀ x, x ∈ l ↔ x ∈ X) : fSortedA [.lst (l.map emb)] = some (.lst (X.map emb)) := by
  have s := sortedA_tup (l := l.map (emb : Int × Int → D)) (by rw [List.all_map, List.all_eq_true]; intro x _; rfl) (by
    have : ∀ l : List (Int × Int), goodDs 59 (l.map emb) = true := fun l => by
      induction l with
      | nil => rfl
      | cons x r ih => simp only [List.map_cons, goodDs, ih, Bool.and_true]; rfl
    exact this _) (by
    unfold alikeD
    rw [List.all_map, List.all_eq_true]
    intro x _
    show ((l.map (emb : Int × Int → D)).all fun b => _) = true
    rw [List.all_map, List.all_eq_true]
    intro y _
    show PySem.W.alike (PyData.tuple [.int x.1, .int x.2]) (PyData.tuple [.int y.1, .int y.2]) = true
    simp [PySem.W.alike, PySem.W.alikeAll])
  have sm : (l.map (emb : Int × Int → D)).mergeSort leD = (l.mergeSort fun a b => !lt2 b a).map emb := by
    rw [PySem.W.sort_maps (s := leD) (emb : Int × Int → D) (fun _ _ _ _ => le_pair.symm)]
  rw [s, sm, ord_sort (lt := lt2) (fun _ _ h => lt2_total h) lt2_irr (fun _ _ _ h1 h2 => lt2_trans h1 h2) nd hp hm]
end VL

set_option Elab.async false
set_option linter.all false
set_option maxRecDepth 100000
set_option maxHeartbeats 4000000
namespace G_k83
open PySem PySem.Spec PyProof.Rows L2 VL
def topS (i : Nat) : Stmt := PySem.Challenge.pw_rulingstold_k83_whole_ends_and_rounds.main.body.getD i (.Pass ⟨0, 0, 0, 0⟩)
abbrev s_led_to : Stmt := topS 1
abbrev N_led_to : List Str := ["moves", "state", "i", "j"]
theorem sc_led_to : FnScope N_led_to ["moves", "state"] (defScope s_led_to) := ⟨rfl, rfl, rfl, by decide +kernel, rfl, by decide +kernel, by decide +kernel⟩
abbrev s_parents_from : Stmt := topS 2
abbrev N_parents_from : List Str := ["moves", "start", "parents", "wave", "following", "state", "other"]
theorem sc_parents_from : FnScope N_parents_from ["moves", "start"] (defScope s_parents_from) := ⟨rfl, rfl, rfl, by decide +kernel, rfl, by decide +kernel, by decide +kernel⟩
abbrev s_find_ranks : Stmt := topS 3
abbrev N_find_ranks : List Str := ["n", "moves", "reached", "ranks", "_", "state", "told", "other"]
theorem sc_find_ranks : FnScope N_find_ranks ["n", "moves", "reached"] (defScope s_find_ranks) := ⟨rfl, rfl, rfl, by decide +kernel, rfl, by decide +kernel, by decide +kernel⟩
abbrev s_endless_run : Stmt := topS 4
abbrev N_endless_run : List Str := ["moves", "ranks", "start", "run", "unranked", "other"]
theorem sc_endless_run : FnScope N_endless_run ["moves", "ranks", "start"] (defScope s_endless_run) := ⟨rfl, rfl, rfl, by decide +kernel, rfl, by decide +kernel, by decide +kernel⟩
abbrev s_ending : Stmt := topS 5
abbrev N_ending : List Str := ["n", "moves", "start", "reached", "ranks", "run", "first"]
theorem sc_ending : FnScope N_ending ["n", "moves", "start"] (defScope s_ending) := ⟨rfl, rfl, rfl, by decide +kernel, rfl, by decide +kernel, by decide +kernel⟩
abbrev s_is_whole : Stmt := topS 7
abbrev N_is_whole : List Str := ["value"]
theorem sc_is_whole : FnScope N_is_whole ["value"] (defScope s_is_whole) := ⟨rfl, rfl, rfl, by decide +kernel, rfl, by decide +kernel, by decide +kernel⟩
abbrev s_are_wholes : Stmt := topS 8
abbrev N_are_wholes : List Str := ["value", "number"]
theorem sc_are_wholes : FnScope N_are_wholes ["value"] (defScope s_are_wholes) := ⟨rfl, rfl, rfl, by decide +kernel, rfl, by decide +kernel, by decide +kernel⟩
abbrev s_is_run : Stmt := topS 10
abbrev N_is_run : List Str := ["moves", "start", "run", "at"]
theorem sc_is_run : FnScope N_is_run ["moves", "start", "run"] (defScope s_is_run) := ⟨rfl, rfl, rfl, by decide +kernel, rfl, by decide +kernel, by decide +kernel⟩
abbrev s_are_ranks : Stmt := topS 11
abbrev N_are_ranks : List Str := ["n", "ranks"]
theorem sc_are_ranks : FnScope N_are_ranks ["n", "ranks"] (defScope s_are_ranks) := ⟨rfl, rfl, rfl, by decide +kernel, rfl, by decide +kernel, by decide +kernel⟩
abbrev s_shows_ends : Stmt := topS 12
abbrev N_shows_ends : List Str := ["n", "moves", "start", "ranks", "i", "j"]
theorem sc_shows_ends : FnScope N_shows_ends ["n", "moves", "start", "ranks"] (defScope s_shows_ends) := ⟨rfl, rfl, rfl, by decide +kernel, rfl, by decide +kernel, by decide +kernel⟩
abbrev s_shows_round : Stmt := topS 13
abbrev N_shows_round : List Str := ["n", "moves", "start", "stem", "loop"]
theorem sc_shows_round : FnScope N_shows_round ["n", "moves", "start", "stem", "loop"] (defScope s_shows_round) := ⟨rfl, rfl, rfl, by decide +kernel, rfl, by decide +kernel, by decide +kernel⟩
abbrev s__law_feed : Stmt := topS 15
abbrev N__law_feed : List Str := ["script"]
theorem sc__law_feed : FnScope N__law_feed ["script"] (defScope s__law_feed) := ⟨rfl, rfl, rfl, by decide +kernel, rfl, by decide +kernel, by decide +kernel⟩
abbrev s__law_draw : Stmt := topS 16
abbrev N__law_draw : List Str := ["feed", "many", "cell", "told", "mixed"]
theorem sc__law_draw : FnScope N__law_draw ["feed", "many"] (defScope s__law_draw) := ⟨rfl, rfl, rfl, by decide +kernel, rfl, by decide +kernel, by decide +kernel⟩
abbrev s__law_is_whole : Stmt := topS 17
abbrev N__law_is_whole : List Str := ["x"]
theorem sc__law_is_whole : FnScope N__law_is_whole ["x"] (defScope s__law_is_whole) := ⟨rfl, rfl, rfl, by decide +kernel, rfl, by decide +kernel, by decide +kernel⟩
abbrev s__law_same : Stmt := topS 18
abbrev N__law_same : List Str := ["told", "due"]
theorem sc__law_same : FnScope N__law_same ["told", "due"] (defScope s__law_same) := ⟨rfl, rfl, rfl, by decide +kernel, rfl, by decide +kernel, by decide +kernel⟩
abbrev s__law_names : Stmt := topS 19
abbrev N__law_names : List Str := ["feed", "n", "names", "k", "at"]
theorem sc__law_names : FnScope N__law_names ["feed", "n"] (defScope s__law_names) := ⟨rfl, rfl, rfl, by decide +kernel, rfl, by decide +kernel, by decide +kernel⟩
abbrev s__law_course : Stmt := topS 20
abbrev N__law_course : List Str := ["feed", "n", "many", "owners", "names", "forward", "moves", "k", "i", "j"]
theorem sc__law_course : FnScope N__law_course ["feed"] (defScope s__law_course) := ⟨rfl, rfl, rfl, by decide +kernel, rfl, by decide +kernel, by decide +kernel⟩
abbrev s__law_are_wholes : Stmt := topS 21
abbrev N__law_are_wholes : List Str := ["row", "x"]
theorem sc__law_are_wholes : FnScope N__law_are_wholes ["row"] (defScope s__law_are_wholes) := ⟨rfl, rfl, rfl, by decide +kernel, rfl, by decide +kernel, by decide +kernel⟩
abbrev s__law_is_run : Stmt := topS 22
abbrev N__law_is_run : List Str := ["moves", "start", "run", "k"]
theorem sc__law_is_run : FnScope N__law_is_run ["moves", "start", "run"] (defScope s__law_is_run) := ⟨rfl, rfl, rfl, by decide +kernel, rfl, by decide +kernel, by decide +kernel⟩
abbrev s__law_longest : Stmt := topS 23
abbrev N__law_longest : List Str := ["n", "moves", "most", "many", "state", "i", "j"]
theorem sc__law_longest : FnScope N__law_longest ["n", "moves"] (defScope s__law_longest) := ⟨rfl, rfl, rfl, by decide +kernel, rfl, by decide +kernel, by decide +kernel⟩
abbrev s__law_reached : Stmt := topS 24
abbrev N__law_reached : List Str := ["n", "moves", "start", "found", "k", "i", "j"]
theorem sc__law_reached : FnScope N__law_reached ["n", "moves", "start"] (defScope s__law_reached) := ⟨rfl, rfl, rfl, by decide +kernel, rfl, by decide +kernel, by decide +kernel⟩
abbrev s__law_is_right : Stmt := topS 25
abbrev N__law_is_right : List Str := ["n", "moves", "start", "told", "most", "reached", "ranks", "state", "paper"]
theorem sc__law_is_right : FnScope N__law_is_right ["n", "moves", "start", "told"] (defScope s__law_is_right) := ⟨rfl, rfl, rfl, by decide +kernel, rfl, by decide +kernel, by decide +kernel⟩
abbrev s__law_asks : Stmt := topS 26
abbrev N__law_asks : List Str := ["n", "moves", "start", "handed", "told", "word", "again"]
theorem sc__law_asks : FnScope N__law_asks ["n", "moves", "start"] (defScope s__law_asks) := ⟨rfl, rfl, rfl, by decide +kernel, rfl, by decide +kernel, by decide +kernel⟩
abbrev s_law : Stmt := topS 27
abbrev N_law : List Str := ["script", "feed", "turn", "n", "owners", "moves", "start", "names", "chain", "forward", "at", "back", "row", "told", "k", "i", "j"]
theorem sc_law : FnScope N_law ["script"] (defScope s_law) := ⟨rfl, rfl, rfl, by decide +kernel, rfl, by decide +kernel, by decide +kernel⟩
structure Top (K : PySem.W.Frag) (mg : Str → Option Value) where
  a_led_to : Addr
  d_led_to : FuncData
  F_led_to : Fun K "led_to" "led_to" s_led_to a_led_to d_led_to
  m_led_to : mg "led_to" = some (.ref a_led_to)
  b_led_to : Binds K d_led_to ["moves", "state"] []
  a_parents_from : Addr
  d_parents_from : FuncData
  F_parents_from : Fun K "parents_from" "parents_from" s_parents_from a_parents_from d_parents_from
  m_parents_from : mg "parents_from" = some (.ref a_parents_from)
  b_parents_from : Binds K d_parents_from ["moves", "start"] []
  a_find_ranks : Addr
  d_find_ranks : FuncData
  F_find_ranks : Fun K "find_ranks" "find_ranks" s_find_ranks a_find_ranks d_find_ranks
  m_find_ranks : mg "find_ranks" = some (.ref a_find_ranks)
  b_find_ranks : Binds K d_find_ranks ["n", "moves", "reached"] []
  a_endless_run : Addr
  d_endless_run : FuncData
  F_endless_run : Fun K "endless_run" "endless_run" s_endless_run a_endless_run d_endless_run
  m_endless_run : mg "endless_run" = some (.ref a_endless_run)
  b_endless_run : Binds K d_endless_run ["moves", "ranks", "start"] []
  a_ending : Addr
  d_ending : FuncData
  F_ending : Fun K "ending" "ending" s_ending a_ending d_ending
  m_ending : mg "ending" = some (.ref a_ending)
  b_ending : Binds K d_ending ["n", "moves", "start"] []
  a_is_whole : Addr
  d_is_whole : FuncData
  F_is_whole : Fun K "is_whole" "is_whole" s_is_whole a_is_whole d_is_whole
  m_is_whole : mg "is_whole" = some (.ref a_is_whole)
  b_is_whole : Binds K d_is_whole ["value"] []
  a_are_wholes : Addr
  d_are_wholes : FuncData
  F_are_wholes : Fun K "are_wholes" "are_wholes" s_are_wholes a_are_wholes d_are_wholes
  m_are_wholes : mg "are_wholes" = some (.ref a_are_wholes)
  b_are_wholes : Binds K d_are_wholes ["value"] []
  a_is_run : Addr
  d_is_run : FuncData
  F_is_run : Fun K "is_run" "is_run" s_is_run a_is_run d_is_run
  m_is_run : mg "is_run" = some (.ref a_is_run)
  b_is_run : Binds K d_is_run ["moves", "start", "run"] []
  a_are_ranks : Addr
  d_are_ranks : FuncData
  F_are_ranks : Fun K "are_ranks" "are_ranks" s_are_ranks a_are_ranks d_are_ranks
  m_are_ranks : mg "are_ranks" = some (.ref a_are_ranks)
  b_are_ranks : Binds K d_are_ranks ["n", "ranks"] []
  a_shows_ends : Addr
  d_shows_ends : FuncData
  F_shows_ends : Fun K "shows_ends" "shows_ends" s_shows_ends a_shows_ends d_shows_ends
  m_shows_ends : mg "shows_ends" = some (.ref a_shows_ends)
  b_shows_ends : Binds K d_shows_ends ["n", "moves", "start", "ranks"] []
  a_shows_round : Addr
  d_shows_round : FuncData
  F_shows_round : Fun K "shows_round" "shows_round" s_shows_round a_shows_round d_shows_round
  m_shows_round : mg "shows_round" = some (.ref a_shows_round)
  b_shows_round : Binds K d_shows_round ["n", "moves", "start", "stem", "loop"] []
  a__law_feed : Addr
  d__law_feed : FuncData
  F__law_feed : Fun K "_law_feed" "_law_feed" s__law_feed a__law_feed d__law_feed
  m__law_feed : mg "_law_feed" = some (.ref a__law_feed)
  b__law_feed : Binds K d__law_feed ["script"] []
  a__law_draw : Addr
  d__law_draw : FuncData
  F__law_draw : Fun K "_law_draw" "_law_draw" s__law_draw a__law_draw d__law_draw
  m__law_draw : mg "_law_draw" = some (.ref a__law_draw)
  b__law_draw : Binds K d__law_draw ["feed", "many"] []
  a__law_is_whole : Addr
  d__law_is_whole : FuncData
  F__law_is_whole : Fun K "_law_is_whole" "_law_is_whole" s__law_is_whole a__law_is_whole d__law_is_whole
  m__law_is_whole : mg "_law_is_whole" = some (.ref a__law_is_whole)
  b__law_is_whole : Binds K d__law_is_whole ["x"] []
  a__law_same : Addr
  d__law_same : FuncData
  F__law_same : Fun K "_law_same" "_law_same" s__law_same a__law_same d__law_same
  m__law_same : mg "_law_same" = some (.ref a__law_same)
  b__law_same : Binds K d__law_same ["told", "due"] []
  a__law_names : Addr
  d__law_names : FuncData
  F__law_names : Fun K "_law_names" "_law_names" s__law_names a__law_names d__law_names
  m__law_names : mg "_law_names" = some (.ref a__law_names)
  b__law_names : Binds K d__law_names ["feed", "n"] []
  a__law_course : Addr
  d__law_course : FuncData
  F__law_course : Fun K "_law_course" "_law_course" s__law_course a__law_course d__law_course
  m__law_course : mg "_law_course" = some (.ref a__law_course)
  b__law_course : Binds K d__law_course ["feed"] []
  a__law_are_wholes : Addr
  d__law_are_wholes : FuncData
  F__law_are_wholes : Fun K "_law_are_wholes" "_law_are_wholes" s__law_are_wholes a__law_are_wholes d__law_are_wholes
  m__law_are_wholes : mg "_law_are_wholes" = some (.ref a__law_are_wholes)
  b__law_are_wholes : Binds K d__law_are_wholes ["row"] []
  a__law_is_run : Addr
  d__law_is_run : FuncData
  F__law_is_run : Fun K "_law_is_run" "_law_is_run" s__law_is_run a__law_is_run d__law_is_run
  m__law_is_run : mg "_law_is_run" = some (.ref a__law_is_run)
  b__law_is_run : Binds K d__law_is_run ["moves", "start", "run"] []
  a__law_longest : Addr
  d__law_longest : FuncData
  F__law_longest : Fun K "_law_longest" "_law_longest" s__law_longest a__law_longest d__law_longest
  m__law_longest : mg "_law_longest" = some (.ref a__law_longest)
  b__law_longest : Binds K d__law_longest ["n", "moves"] []
  a__law_reached : Addr
  d__law_reached : FuncData
  F__law_reached : Fun K "_law_reached" "_law_reached" s__law_reached a__law_reached d__law_reached
  m__law_reached : mg "_law_reached" = some (.ref a__law_reached)
  b__law_reached : Binds K d__law_reached ["n", "moves", "start"] []
  a__law_is_right : Addr
  d__law_is_right : FuncData
  F__law_is_right : Fun K "_law_is_right" "_law_is_right" s__law_is_right a__law_is_right d__law_is_right
  m__law_is_right : mg "_law_is_right" = some (.ref a__law_is_right)
  b__law_is_right : Binds K d__law_is_right ["n", "moves", "start", "told"] []
  a__law_asks : Addr
  d__law_asks : FuncData
  F__law_asks : Fun K "_law_asks" "_law_asks" s__law_asks a__law_asks d__law_asks
  m__law_asks : mg "_law_asks" = some (.ref a__law_asks)
  b__law_asks : Binds K d__law_asks ["n", "moves", "start"] []
  a_law : Addr
  d_law : FuncData
  F_law : Fun K "law" "law" s_law a_law d_law
  m_law : mg "law" = some (.ref a_law)
  b_law : Binds K d_law ["script"] []
  z_abs : mg "abs" = none
  z_bool : mg "bool" = none
  z_int : mg "int" = none
  z_isinstance : mg "isinstance" = none
  z_len : mg "len" = none
  z_list : mg "list" = none
  z_max : mg "max" = none
  z_min : mg "min" = none
  z_range : mg "range" = none
  z_sorted : mg "sorted" = none
  z_tuple : mg "tuple" = none
section
variable {P : Program} {w : World} {K : PySem.W.Frag} {mg : Str → Option Value} {base : Heap}
def b_led_to : Es := (sRet (eLC (eIt (eVar 0)) [2, 3] (.tup [(.name 2), (.name 3)]) (eTB (eBin dEq (.slot 2) (.slot 1))) (eVar 3)))
def v_led_to : Fe := fun ds => noexn (fnEv [.brw, .brw] 4 b_led_to ds)
theorem ok_led_to (T : Top K mg) : FnOk P w K mg base CX0 3 T.a_led_to T.d_led_to ["moves", "state"] (spFn K mg [.brw, .brw] .own v_led_to EX0) := by
  refine fn_ok0 (N := N_led_to) (As := List.range 4) T.F_led_to sc_led_to rfl (by decide) (fun cdv A outer s H vs E hr hl hio => ?_) (.inl rfl)
  have hp : PassesOwn (model P w) (A.deeper (envOfC "led_to" (defScope s_led_to) s.heap.objs.size T.a_led_to cdv)) (envOfC "led_to" (defScope s_led_to) s.heap.objs.size T.a_led_to cdv) (fun _ _ => False) := PassesOwn.never
  have hN := sc_led_to.nd
  have hu : (A.deeper (envOfC "led_to" (defScope s_led_to) s.heap.objs.size T.a_led_to cdv)).units + 64 < cLine := by have := hr.un; omega
  have hu0 : (A.deeper (envOfC "led_to" (defScope s_led_to) s.heap.objs.size T.a_led_to cdv)).units < cLine := by have := hr.un; omega
  have hu1 : (A.deeper (envOfC "led_to" (defScope s_led_to) s.heap.objs.size T.a_led_to cdv)).units + 65 < cLine := by have := hr.un; omega
  match vs, hl with
  | [x0, x1], _ =>
  exact ⟨[.fz, .fz, .fz, .fz], (by intro i q h; cases h), (vss_one (vs_ret (ve_lc rfl hN (own := [("i", 2), ("j", 3)]) (vi_any (vb_brw (pv 0) rfl)) (blkOk_by (by kernel_rfl)) (allFz_ok rfl) (fun _ _ _ _ _ => (vg_tup rfl (vgs_cons (vg_name hN rfl (by first | exact .inl rfl | exact .inr rfl) rfl (memB rfl)) (vgs_cons (vg_name hN rfl (by first | exact .inl rfl | exact .inr rfl) rfl (memB rfl)) vgs_nil)))) (fun _ _ _ _ _ => (vts_one (vt_cmp (op_eqA hu) f_eq (vb_slot (pv 2)) (vb_slot (pv 1)) (nomark _)))) (fun _ _ _ _ _ => (ve_fz (pv 3) rfl))) rfl (by intro i q h; cases h)))⟩
def b_parents_from : Es := (sSeq (sSet 2 (eDct1 (eVar 1) (eC .non))) (sSeq (sSet 3 (eLst [.val (eVar 1)])) (sSeq (sWhile bigN (eTru (.slot 3)) (sSeq (sSet 4 (eLst [])) (sSeq (sFor (eIt (eVar 3)) (.name 5) (sFor (eIt (eFn [.brw, .brw] v_led_to [.bor (.slot 0), .bor (.slot 5)])) (.name 6) (sIf (eTB (eBin dNotInK (.slot 6) (.slot 2))) (sSeq (sSetIxK 2 (eVar 6) (eVar 5)) (sExpr (eMut 4 mAppend [.val (eVar 6)]))) sNil))) (sSet 3 (eVar 4))))) (sRet (eOut [] 2)))))
def v_parents_from : Fe := fun ds => noexn (fnEv [.brw, .fz] 7 b_parents_from ds)
theorem ok_parents_from (T : Top K mg) : FnOk P w K mg base CX0 4 T.a_parents_from T.d_parents_from ["moves", "start"] (spFn K mg [.brw, .fz] .own v_parents_from EX0) := by
  refine fn_ok0 (N := N_parents_from) (As := List.range 7) T.F_parents_from sc_parents_from rfl (by decide) (fun cdv A outer s H vs E hr hl hio => ?_) (.inl rfl)
  have hp : PassesOwn (model P w) (A.deeper (envOfC "parents_from" (defScope s_parents_from) s.heap.objs.size T.a_parents_from cdv)) (envOfC "parents_from" (defScope s_parents_from) s.heap.objs.size T.a_parents_from cdv) (fun _ _ => False) := PassesOwn.never
  have hN := sc_parents_from.nd
  have hu : (A.deeper (envOfC "parents_from" (defScope s_parents_from) s.heap.objs.size T.a_parents_from cdv)).units + 64 < cLine := by have := hr.un; omega
  have hu0 : (A.deeper (envOfC "parents_from" (defScope s_parents_from) s.heap.objs.size T.a_parents_from cdv)).units < cLine := by have := hr.un; omega
  have hu1 : (A.deeper (envOfC "parents_from" (defScope s_parents_from) s.heap.objs.size T.a_parents_from cdv)).units + 65 < cLine := by have := hr.un; omega
  match vs, hl with
  | [x0, x1], _ =>
  exact ⟨[.fz, .fz, .fz, .fz, .fz, .fz, .fz], (by intro i q h; cases h), (vss_cons (vs_set hN rfl (by first | exact .inl rfl | exact .inr rfl) (ve_dct1 (ve_fz (pv 1) rfl) ve_non) (.inr rfl) (ltB rfl) (memB rfl)) (vss_cons (vs_set hN rfl (by first | exact .inl rfl | exact .inr rfl) (ve_coe (ve_lst (va_cons (va_val (ve_fz (pv 1) rfl)) va_nil) rfl)) (.inl rfl) (ltB rfl) (memB rfl)) (vss_cons (vs_while (n := bigN) hp (vt_tru (vb_slot (pv 3))) (vss_cons (vs_set hN rfl (by first | exact .inl rfl | exact .inr rfl) (ve_lst va_nil rfl) (.inr rfl) (ltB rfl) (memB rfl)) (vss_cons (vs_for hp rfl (vi_any (vb_ex (ve_fz (pv 3) rfl))) (vg_name hN rfl (by first | exact .inl rfl | exact .inr rfl) rfl (memB rfl)) (vss_one (vs_for hp rfl (vi_any (vb_ex (ve_call0 (fe := v_led_to) (pms := [.brw, .brw]) (.inl rfl) (va_cons (va_bor (vb_slot (pv 0))) (va_cons (va_bor (vb_slot (pv 5))) va_nil)) rfl (nodupB rfl) rfl (fun h => pe_call (ok_led_to T) (hr.mono (by decide)) (by rfl) T.m_led_to T.F_led_to.kp T.b_led_to .nil pass0 h)))) (vg_name hN rfl (by first | exact .inl rfl | exact .inr rfl) rfl (memB rfl)) (vss_one (vs_if (vt_cmp (op_notInK hu1) f_notInK (vb_slot (pv 6)) (vb_slot (pv 2)) (by rfl)) (vss_cons (vs_setIxK (ve_fz (pv 5) rfl) (pg_sub (pv 2) (ve_fz (pv 6) rfl) (set_K (hu_of1 hu1))) rfl rfl) (vss_one (vs_expr (ve_mut m_append PySem.F.slot_list_append PySem.F.type_list_append mt_append (pv 4) (va_cons (va_val (ve_fz (pv 6) rfl)) va_nil) rfl rfl rfl)))) vss_nil))))) (vss_one (vs_set hN rfl (by first | exact .inl rfl | exact .inr rfl) (ve_own (pv 4) rfl) (.inl rfl) (ltB rfl) (memB rfl)))))) (vss_one (vs_retOwn (js := []) (pv 2) rfl rfl (by intro i q h; cases h) (by intro j q h; cases h))))))⟩
def b_find_ranks : Es := (sSeq (sSet 3 (eBin dMul (.ex (eLst [.val (eNeg (eC (.int 1)))])) (.slot 0))) (sSeq (sFor (eIt (eVar 2)) (.name 4) (sFor (eIt (eVar 2)) (.name 5) (sSeq (sSet 6 (eLC (eIt (eFn [.brw, .brw] v_led_to [.bor (.slot 1), .bor (.slot 5)])) [7] (.name 7) tYesE (eBin dIx (.slot 3) (.slot 7)))) (sIf (eAnd (eTB (eBin dEq (.ex (eBin dIx (.slot 3) (.slot 5))) (.ex (eNeg (eC (.int 1)))))) (eTB (eBin dNotIn (.ex (eNeg (eC (.int 1)))) (.slot 6)))) (sSetIx 3 (eVar 5) (eBin dAdd (.ex (eCall fMaxLn1 [.bor (.slot 6)])) (.ex (eC (.int 1))))) sNil)))) (sRet (eOut [] 3))))
def v_find_ranks : Fe := fun ds => noexn (fnEv [.brw, .brw, .brw] 8 b_find_ranks ds)
theorem ok_find_ranks (T : Top K mg) : FnOk P w K mg base CX0 4 T.a_find_ranks T.d_find_ranks ["n", "moves", "reached"] (spFn K mg [.brw, .brw, .brw] .own v_find_ranks EX0) := by
  refine fn_ok0 (N := N_find_ranks) (As := List.range 8) T.F_find_ranks sc_find_ranks rfl (by decide) (fun cdv A outer s H vs E hr hl hio => ?_) (.inl rfl)
  have hp : PassesOwn (model P w) (A.deeper (envOfC "find_ranks" (defScope s_find_ranks) s.heap.objs.size T.a_find_ranks cdv)) (envOfC "find_ranks" (defScope s_find_ranks) s.heap.objs.size T.a_find_ranks cdv) (fun _ _ => False) := PassesOwn.never
  have hN := sc_find_ranks.nd
  have hu : (A.deeper (envOfC "find_ranks" (defScope s_find_ranks) s.heap.objs.size T.a_find_ranks cdv)).units + 64 < cLine := by have := hr.un; omega
  have hu0 : (A.deeper (envOfC "find_ranks" (defScope s_find_ranks) s.heap.objs.size T.a_find_ranks cdv)).units < cLine := by have := hr.un; omega
  have hu1 : (A.deeper (envOfC "find_ranks" (defScope s_find_ranks) s.heap.objs.size T.a_find_ranks cdv)).units + 65 < cLine := by have := hr.un; omega
  match vs, hl with
  | [x0, x1, x2], _ =>
  exact ⟨[.fz, .fz, .fz, .fz, .fz, .fz, .fz, .fz], (by intro i q h; cases h), (vss_cons (vs_set hN rfl (by first | exact .inl rfl | exact .inr rfl) (ve_bin op_mulA f_mul (vb_ex (ve_lst (va_cons (va_val (ve_neg ve_int)) va_nil) rfl)) (vb_slot (pv 0))) (.inr rfl) (ltB rfl) (memB rfl)) (vss_cons (vs_for hp rfl (vi_any (vb_brw (pv 2) rfl)) (vg_name hN rfl (by first | exact .inl rfl | exact .inr rfl) rfl (memB rfl)) (vss_one (vs_for hp rfl (vi_any (vb_brw (pv 2) rfl)) (vg_name hN rfl (by first | exact .inl rfl | exact .inr rfl) rfl (memB rfl)) (vss_cons (vs_setLc (m := .fz) rfl hN rfl rfl (sw_true rfl rfl rfl (by decide +kernel)) (own := [("other", 7)]) (vi_any (vb_ex (ve_call0 (fe := v_led_to) (pms := [.brw, .brw]) (.inl rfl) (va_cons (va_bor (vb_slot (pv 1))) (va_cons (va_bor (vb_slot (pv 5))) va_nil)) rfl (nodupB rfl) rfl (fun h => pe_call (ok_led_to T) (hr.mono (by decide)) (by rfl) T.m_led_to T.F_led_to.kp T.b_led_to .nil pass0 h)))) (blkOk_by (by kernel_rfl)) (allFz_ok rfl) (fun _ _ _ _ _ => (vg_name hN rfl (by first | exact .inl rfl | exact .inr rfl) rfl (memB rfl))) (fun _ _ _ _ _ => vts_nil) (fun _ _ _ _ _ => (ve_ix ix_seq f_ix (vb_slot (pv 3)) (vb_slot (pv 7)) (fun _ _ => rfl))) (.inr rfl) (ltB rfl) (memB rfl)) (vss_one (vs_if (vt_bool (vw_and (vt_cmp (op_eqA hu) f_eq (vb_ex (ve_ix ix_seq f_ix (vb_slot (pv 3)) (vb_slot (pv 5)) (fun _ _ => rfl))) (vb_ex (ve_neg ve_int)) (nomark _)) (vw_and1 (vt_cmp (op_notInA hu1) f_notIn (vb_ex (ve_neg ve_int)) (vb_slot (pv 6)) (by rfl))))) (vss_one (vs_setIx (ve_coe (ve_bin op_addA f_add (vb_ex (ve_callBK (cr_maxKw rfl hu) (c_maxLD rfl (fun _ => rfl)) (by rfl) T.z_max (by decide +kernel) (va_cons (va_bor (vb_slot (pv 6))) va_nil) pe_negC)) (vb_ex ve_int))) (pg_sub (pv 3) (ve_fz (pv 5) rfl) set_list) rfl rfl)) vss_nil)))))) (vss_one (vs_retOwn (js := []) (pv 3) rfl rfl (by intro i q h; cases h) (by intro j q h; cases h)))))⟩
def b_endless_run : Es := (sSeq (sSet 3 (eLst [.val (eVar 2)])) (sSeq (sWhile bigN (eTB (eBin dNotIn (.ex (eBin dIx (.slot 3) (.ex (eNeg (eC (.int 1)))))) (.ex (eSl (.slot 3) none (some (eNeg (eC (.int 1)))))))) (sSeq (sSet 4 (eLC (eIt (eFn [.brw, .brw] v_led_to [.bor (.slot 0), .bor (.ex (eBin dIx (.slot 3) (.ex (eNeg (eC (.int 1))))))])) [5] (.name 5) (eTB (eBin dEq (.ex (eBin dIx (.slot 1) (.slot 5))) (.ex (eNeg (eC (.int 1)))))) (eVar 5))) (sExpr (eMut 3 mAppend [.val (eBin dIx (.slot 4) (.ex (eC (.int 0))))])))) (sRet (eOut [] 3))))
def v_endless_run : Fe := fun ds => noexn (fnEv [.brw, .brw, .fz] 6 b_endless_run ds)
theorem ok_endless_run (T : Top K mg) : FnOk P w K mg base CX0 4 T.a_endless_run T.d_endless_run ["moves", "ranks", "start"] (spFn K mg [.brw, .brw, .fz] .own v_endless_run EX0) := by
  refine fn_ok0 (N := N_endless_run) (As := List.range 6) T.F_endless_run sc_endless_run rfl (by decide) (fun cdv A outer s H vs E hr hl hio => ?_) (.inl rfl)
  have hp : PassesOwn (model P w) (A.deeper (envOfC "endless_run" (defScope s_endless_run) s.heap.objs.size T.a_endless_run cdv)) (envOfC "endless_run" (defScope s_endless_run) s.heap.objs.size T.a_endless_run cdv) (fun _ _ => False) := PassesOwn.never
  have hN := sc_endless_run.nd
  have hu : (A.deeper (envOfC "endless_run" (defScope s_endless_run) s.heap.objs.size T.a_endless_run cdv)).units + 64 < cLine := by have := hr.un; omega
  have hu0 : (A.deeper (envOfC "endless_run" (defScope s_endless_run) s.heap.objs.size T.a_endless_run cdv)).units < cLine := by have := hr.un; omega
  have hu1 : (A.deeper (envOfC "endless_run" (defScope s_endless_run) s.heap.objs.size T.a_endless_run cdv)).units + 65 < cLine := by have := hr.un; omega
  match vs, hl with
  | [x0, x1, x2], _ =>
  exact ⟨[.fz, .fz, .fz, .fz, .fz, .fz], (by intro i q h; cases h), (vss_cons (vs_set hN rfl (by first | exact .inl rfl | exact .inr rfl) (ve_lst (va_cons (va_val (ve_fz (pv 2) rfl)) va_nil) rfl) (.inr rfl) (ltB rfl) (memB rfl)) (vss_cons (vs_while (n := bigN) hp (vt_cmp (op_notInA hu1) f_notIn (vb_ex (ve_ix ix_seq f_ix (vb_slot (pv 3)) (vb_ex (ve_neg ve_int)) (fun _ _ => rfl))) (vb_ex (ve_slice (vb_slot (pv 3)) vpo_none (vpo_some (ve_neg ve_int)))) (by rfl)) (vss_cons (vs_setLc (m := .fz) rfl hN rfl rfl (sw_true rfl rfl rfl (by decide +kernel)) (own := [("other", 5)]) (vi_any (vb_ex (ve_call0 (fe := v_led_to) (pms := [.brw, .brw]) (.inl rfl) (va_cons (va_bor (vb_slot (pv 0))) (va_cons (va_bor (vb_ex (ve_ix ix_seq f_ix (vb_slot (pv 3)) (vb_ex (ve_neg ve_int)) (fun _ _ => rfl)))) va_nil)) rfl (nodupB rfl) rfl (fun h => pe_call (ok_led_to T) (hr.mono (by decide)) (by rfl) T.m_led_to T.F_led_to.kp T.b_led_to .nil pass0 h)))) (blkOk_by (by kernel_rfl)) (allFz_ok rfl) (fun _ _ _ _ _ => (vg_name hN rfl (by first | exact .inl rfl | exact .inr rfl) rfl (memB rfl))) (fun _ _ _ _ _ => (vts_one (vt_cmp (op_eqA hu) f_eq (vb_ex (ve_ix ix_seq f_ix (vb_slot (pv 1)) (vb_slot (pv 5)) (fun _ _ => rfl))) (vb_ex (ve_neg ve_int)) (nomark _)))) (fun _ _ _ _ _ => (ve_fz (pv 5) rfl)) (.inr rfl) (ltB rfl) (memB rfl)) (vss_one (vs_expr (ve_mut m_append PySem.F.slot_list_append PySem.F.type_list_append mt_append (pv 3) (va_cons (va_val (ve_ix ix_seq f_ix (vb_slot (pv 4)) (vb_ex ve_int) (fun _ _ => rfl))) va_nil) rfl rfl rfl))))) (vss_one (vs_retOwn (js := []) (pv 3) rfl rfl (by intro i q h; cases h) (by intro j q h; cases h)))))⟩
def b_ending : Es := (sSeq (sSet 3 (eCall fSortedK [.bor (.ex (eFn [.brw, .fz] v_parents_from [.bor (.slot 1), .val (eVar 2)]))])) (sSeq (sSet 4 (eFn [.brw, .brw, .brw] v_find_ranks [.bor (.slot 0), .bor (.slot 1), .bor (.slot 3)])) (sSeq (sIf (eTB (eBin dGe (.ex (eBin dIx (.slot 4) (.slot 2))) (.ex (eC (.int 0))))) (sRet (eUp (eTup [.val (eC (.str [101, 110, 100, 115])), .val (eVar 4)]))) sNil) (sSeq (sSet 5 (eFn [.brw, .brw, .fz] v_endless_run [.bor (.slot 1), .bor (.slot 4), .val (eVar 2)])) (sSeq (sSet 6 (eMth 5 mIndex [.bor (.ex (eBin dIx (.slot 5) (.ex (eNeg (eC (.int 1))))))])) (sRet (eUp (eTup [.val (eC (.str [114, 111, 117, 110, 100])), .val (eSl (.slot 5) none (some (eBin dAdd (.slot 6) (.ex (eC (.int 1)))))), .val (eSl (.slot 5) (some (eVar 6)) none)]))))))))
def v_ending : Fe := fun ds => noexn (fnEv [.brw, .brw, .fz] 7 b_ending ds)
theorem ok_ending (T : Top K mg) : FnOk P w K mg base CX0 5 T.a_ending T.d_ending ["n", "moves", "start"] (spFn K mg [.brw, .brw, .fz] .own v_ending EX0) := by
  refine fn_ok0 (N := N_ending) (As := List.range 7) T.F_ending sc_ending rfl (by decide) (fun cdv A outer s H vs E hr hl hio => ?_) (.inl rfl)
  have hp : PassesOwn (model P w) (A.deeper (envOfC "ending" (defScope s_ending) s.heap.objs.size T.a_ending cdv)) (envOfC "ending" (defScope s_ending) s.heap.objs.size T.a_ending cdv) (fun _ _ => False) := PassesOwn.never
  have hN := sc_ending.nd
  have hu : (A.deeper (envOfC "ending" (defScope s_ending) s.heap.objs.size T.a_ending cdv)).units + 64 < cLine := by have := hr.un; omega
  have hu0 : (A.deeper (envOfC "ending" (defScope s_ending) s.heap.objs.size T.a_ending cdv)).units < cLine := by have := hr.un; omega
  have hu1 : (A.deeper (envOfC "ending" (defScope s_ending) s.heap.objs.size T.a_ending cdv)).units + 65 < cLine := by have := hr.un; omega
  match vs, hl with
  | [x0, x1, x2], _ =>
  exact ⟨[.fz, .fz, .fz, .fz, .fz, .fz, .fz], (by intro i q h; cases h), (vss_cons (vs_set hN rfl (by first | exact .inl rfl | exact .inr rfl) (ve_coe (ve_callB (cr_sortedK hu rfl) c_sortedK (by rfl) T.z_sorted (by decide +kernel) (va_cons (va_bor (vb_ex (ve_call0 (fe := v_parents_from) (pms := [.brw, .fz]) (.inl rfl) (va_cons (va_bor (vb_slot (pv 1))) (va_cons (va_val (ve_fz (pv 2) rfl)) va_nil)) rfl (nodupB rfl) rfl (fun h => pe_call (ok_parents_from T) (hr.mono (by decide)) (by rfl) T.m_parents_from T.F_parents_from.kp T.b_parents_from .nil pass0 h)))) va_nil))) (.inl rfl) (ltB rfl) (memB rfl)) (vss_cons (vs_set hN rfl (by first | exact .inl rfl | exact .inr rfl) (ve_coe (ve_call0 (fe := v_find_ranks) (pms := [.brw, .brw, .brw]) (.inl rfl) (va_cons (va_bor (vb_slot (pv 0))) (va_cons (va_bor (vb_slot (pv 1))) (va_cons (va_bor (vb_slot (pv 3))) va_nil))) rfl (nodupB rfl) rfl (fun h => pe_call (ok_find_ranks T) (hr.mono (by decide)) (by rfl) T.m_find_ranks T.F_find_ranks.kp T.b_find_ranks .nil pass0 h))) (.inl rfl) (ltB rfl) (memB rfl)) (vss_cons (vs_if (vt_cmp op_geA f_ge (vb_ex (ve_ix ix_seq f_ix (vb_slot (pv 4)) (vb_slot (pv 2)) (fun _ _ => rfl))) (vb_ex ve_int) (nomark _)) (vss_one (vs_ret (ve_up (ve_tup (va_cons (va_val (ve_str (l := [101, 110, 100, 115]) (by decide +kernel))) (va_cons (va_val (ve_fz (pv 4) rfl)) va_nil)) rfl)) rfl (by intro i q h; cases h))) vss_nil) (vss_cons (vs_set hN rfl (by first | exact .inl rfl | exact .inr rfl) (ve_coe (ve_call0 (fe := v_endless_run) (pms := [.brw, .brw, .fz]) (.inl rfl) (va_cons (va_bor (vb_slot (pv 1))) (va_cons (va_bor (vb_slot (pv 4))) (va_cons (va_val (ve_fz (pv 2) rfl)) va_nil))) rfl (nodupB rfl) rfl (fun h => pe_call (ok_endless_run T) (hr.mono (by decide)) (by rfl) T.m_endless_run T.F_endless_run.kp T.b_endless_run .nil pass0 h))) (.inl rfl) (ltB rfl) (memB rfl)) (vss_cons (vs_set hN rfl (by first | exact .inl rfl | exact .inr rfl) (ve_mth m_index PySem.F.slot_list_index PySem.F.type_list_index mt_index (pv 5) (va_cons (va_bor (vb_ex (ve_ix ix_seq f_ix (vb_slot (pv 5)) (vb_ex (ve_neg ve_int)) (fun _ _ => rfl)))) va_nil)) (.inl rfl) (ltB rfl) (memB rfl)) (vss_one (vs_ret (ve_up (ve_tup (va_cons (va_val (ve_str (l := [114, 111, 117, 110, 100]) (by decide +kernel))) (va_cons (va_val (ve_coe (ve_slice (vb_slot (pv 5)) vpo_none (vpo_some (ve_coe (ve_bin op_addA f_add (vb_slot (pv 6)) (vb_ex ve_int))))))) (va_cons (va_val (ve_coe (ve_slice (vb_slot (pv 5)) (vpo_some (ve_fz (pv 6) rfl)) vpo_none))) va_nil))) rfl)) rfl (by intro i q h; cases h))))))))⟩
def b_is_whole : Es := (sRet (eUp (eAndV (eCall (fIsi "int") [.bor (.slot 0), .val eTy]) (eNotV (eCall (fIsi "bool") [.bor (.slot 0), .val eTy])))))
def v_is_whole : Fe := fun ds => noexn (fnEv [.brw] 1 b_is_whole ds)
theorem ok_is_whole (T : Top K mg) : FnOk P w K mg base CX0 3 T.a_is_whole T.d_is_whole ["value"] (spFn K mg [.brw] .own v_is_whole EX0) := by
  refine fn_ok0 (N := N_is_whole) (As := List.range 1) T.F_is_whole sc_is_whole rfl (by decide) (fun cdv A outer s H vs E hr hl hio => ?_) (.inl rfl)
  have hp : PassesOwn (model P w) (A.deeper (envOfC "is_whole" (defScope s_is_whole) s.heap.objs.size T.a_is_whole cdv)) (envOfC "is_whole" (defScope s_is_whole) s.heap.objs.size T.a_is_whole cdv) (fun _ _ => False) := PassesOwn.never
  have hN := sc_is_whole.nd
  have hu : (A.deeper (envOfC "is_whole" (defScope s_is_whole) s.heap.objs.size T.a_is_whole cdv)).units + 64 < cLine := by have := hr.un; omega
  have hu0 : (A.deeper (envOfC "is_whole" (defScope s_is_whole) s.heap.objs.size T.a_is_whole cdv)).units < cLine := by have := hr.un; omega
  have hu1 : (A.deeper (envOfC "is_whole" (defScope s_is_whole) s.heap.objs.size T.a_is_whole cdv)).units + 65 < cLine := by have := hr.un; omega
  match vs, hl with
  | [x0], _ =>
  exact ⟨[.fz], (by intro i q h; cases h), (vss_one (vs_ret (ve_up (ve_and (ve_isi (T := "int") (by decide +kernel) (.ty _) (vb_slot (pv 0)) (fun h => pe_callB call_isi (by rfl) T.z_isinstance (by decide +kernel) (pa_cons h (pa_cons (pe_bltn (v := .ty "int") (by rfl) T.z_int (by decide +kernel) rfl) pa_nil)))) (ve_one (ve_not (ve_isi (T := "bool") (by decide +kernel) (.ty _) (vb_slot (pv 0)) (fun h => pe_callB call_isi (by rfl) T.z_isinstance (by decide +kernel) (pa_cons h (pa_cons (pe_bltn (v := .ty "bool") (by rfl) T.z_bool (by decide +kernel) rfl) pa_nil)))))))) rfl (by intro i q h; cases h)))⟩
def b_are_wholes : Es := (sSeq (sIf (eNot (eTru (.ex (eCall (fIsi "list") [.bor (.slot 0), .val eTy])))) (sRet (eUp (eC (.bl false)))) sNil) (sSeq (sFor (eIt (eVar 0)) (.name 1) (sIf (eNot (eTru (.ex (eFn [.brw] v_is_whole [.bor (.slot 1)])))) (sRet (eUp (eC (.bl false)))) sNil)) (sRet (eUp (eC (.bl true))))))
def v_are_wholes : Fe := fun ds => noexn (fnEv [.brw] 2 b_are_wholes ds)
theorem ok_are_wholes (T : Top K mg) : FnOk P w K mg base CX0 4 T.a_are_wholes T.d_are_wholes ["value"] (spFn K mg [.brw] .own v_are_wholes EX0) := by
  refine fn_ok0 (N := N_are_wholes) (As := List.range 2) T.F_are_wholes sc_are_wholes rfl (by decide) (fun cdv A outer s H vs E hr hl hio => ?_) (.inl rfl)
  have hp : PassesOwn (model P w) (A.deeper (envOfC "are_wholes" (defScope s_are_wholes) s.heap.objs.size T.a_are_wholes cdv)) (envOfC "are_wholes" (defScope s_are_wholes) s.heap.objs.size T.a_are_wholes cdv) (fun _ _ => False) := PassesOwn.never
  have hN := sc_are_wholes.nd
  have hu : (A.deeper (envOfC "are_wholes" (defScope s_are_wholes) s.heap.objs.size T.a_are_wholes cdv)).units + 64 < cLine := by have := hr.un; omega
  have hu0 : (A.deeper (envOfC "are_wholes" (defScope s_are_wholes) s.heap.objs.size T.a_are_wholes cdv)).units < cLine := by have := hr.un; omega
  have hu1 : (A.deeper (envOfC "are_wholes" (defScope s_are_wholes) s.heap.objs.size T.a_are_wholes cdv)).units + 65 < cLine := by have := hr.un; omega
  match vs, hl with
  | [x0], _ =>
  exact ⟨[.fz, .fz], (by intro i q h; cases h), (vss_cons (vs_if (vt_not (vt_tru (vb_ex (ve_isi (T := "list") (by decide +kernel) (.ty _) (vb_slot (pv 0)) (fun h => pe_callB call_isi (by rfl) T.z_isinstance (by decide +kernel) (pa_cons h (pa_cons (pe_bltn (v := .ty "list") (by rfl) T.z_list (by decide +kernel) rfl) pa_nil))))))) (vss_one (vs_ret (ve_up ve_bl) rfl (by intro i q h; cases h))) vss_nil) (vss_cons (vs_for hp rfl (vi_any (vb_brw (pv 0) rfl)) (vg_name hN rfl (by first | exact .inl rfl | exact .inr rfl) rfl (memB rfl)) (vss_one (vs_if (vt_not (vt_tru (vb_ex (ve_call0 (fe := v_is_whole) (pms := [.brw]) (.inl rfl) (va_cons (va_bor (vb_slot (pv 1))) va_nil) rfl (nodupB rfl) rfl (fun h => pe_call (ok_is_whole T) (hr.mono (by decide)) (by rfl) T.m_is_whole T.F_is_whole.kp T.b_is_whole .nil pass0 h))))) (vss_one (vs_ret (ve_up ve_bl) rfl (by intro i q h; cases h))) vss_nil))) (vss_one (vs_ret (ve_up ve_bl) rfl (by intro i q h; cases h)))))⟩
def b_is_run : Es := (sSeq (sIf (eOr (eNot (eTru (.ex (eFn [.brw] v_are_wholes [.bor (.slot 2)])))) (eOr (eTB (eBin dEq (.ex (eCall fLen [.bor (.slot 2)])) (.ex (eC (.int 0))))) (eTB (eBin dNe (.ex (eBin dIx (.slot 2) (.ex (eC (.int 0))))) (.slot 1))))) (sRet (eUp (eC (.bl false)))) sNil) (sSeq (sFor (eRng [.val (eC (.int 1)), .val (eCall fLen [.bor (.slot 2)])]) (.name 3) (sIf (eTB (eBin dNotIn (.ex (eTup [.val (eBin dIx (.slot 2) (.ex (eBin dSub (.slot 3) (.ex (eC (.int 1)))))), .val (eBin dIx (.slot 2) (.slot 3))])) (.slot 0))) (sRet (eUp (eC (.bl false)))) sNil)) (sRet (eUp (eC (.bl true))))))
def v_is_run : Fe := fun ds => noexn (fnEv [.brw, .brw, .brw] 4 b_is_run ds)
theorem ok_is_run (T : Top K mg) : FnOk P w K mg base CX0 5 T.a_is_run T.d_is_run ["moves", "start", "run"] (spFn K mg [.brw, .brw, .brw] .own v_is_run EX0) := by
  refine fn_ok0 (N := N_is_run) (As := List.range 4) T.F_is_run sc_is_run rfl (by decide) (fun cdv A outer s H vs E hr hl hio => ?_) (.inl rfl)
  have hp : PassesOwn (model P w) (A.deeper (envOfC "is_run" (defScope s_is_run) s.heap.objs.size T.a_is_run cdv)) (envOfC "is_run" (defScope s_is_run) s.heap.objs.size T.a_is_run cdv) (fun _ _ => False) := PassesOwn.never
  have hN := sc_is_run.nd
  have hu : (A.deeper (envOfC "is_run" (defScope s_is_run) s.heap.objs.size T.a_is_run cdv)).units + 64 < cLine := by have := hr.un; omega
  have hu0 : (A.deeper (envOfC "is_run" (defScope s_is_run) s.heap.objs.size T.a_is_run cdv)).units < cLine := by have := hr.un; omega
  have hu1 : (A.deeper (envOfC "is_run" (defScope s_is_run) s.heap.objs.size T.a_is_run cdv)).units + 65 < cLine := by have := hr.un; omega
  match vs, hl with
  | [x0, x1, x2], _ =>
  exact ⟨[.fz, .fz, .fz, .fz], (by intro i q h; cases h), (vss_cons (vs_if (vt_bool (vw_or (vt_not (vt_tru (vb_ex (ve_call0 (fe := v_are_wholes) (pms := [.brw]) (.inl rfl) (va_cons (va_bor (vb_slot (pv 2))) va_nil) rfl (nodupB rfl) rfl (fun h => pe_call (ok_are_wholes T) (hr.mono (by decide)) (by rfl) T.m_are_wholes T.F_are_wholes.kp T.b_are_wholes .nil pass0 h))))) (vw_or (vt_cmp (op_eqA hu) f_eq (vb_ex (ve_callB b_len c_len (by rfl) T.z_len (by decide +kernel) (va_cons (va_bor (vb_slot (pv 2))) va_nil))) (vb_ex ve_int) (nomark _)) (vw_or1 (vt_cmp (op_neA hu) f_ne (vb_ex (ve_ix ix_seq f_ix (vb_slot (pv 2)) (vb_ex ve_int) (fun _ _ => rfl))) (vb_slot (pv 1)) (nomark _)))))) (vss_one (vs_ret (ve_up ve_bl) rfl (by intro i q h; cases h))) vss_nil) (vss_cons (vs_for hp rfl (vi_rng2 (by rfl) T.z_range (va_cons (va_val ve_int) (va_cons (va_val (ve_callB b_len c_len (by rfl) T.z_len (by decide +kernel) (va_cons (va_bor (vb_slot (pv 2))) va_nil))) va_nil))) (vg_name hN rfl (by first | exact .inl rfl | exact .inr rfl) rfl (memB rfl)) (vss_one (vs_if (vt_cmp (op_notInA hu1) f_notIn (vb_ex (ve_tup (va_cons (va_val (ve_ix ix_seq f_ix (vb_slot (pv 2)) (vb_ex (ve_bin op_sub f_sub (vb_slot (pv 3)) (vb_ex ve_int))) (fun _ _ => rfl))) (va_cons (va_val (ve_ix ix_seq f_ix (vb_slot (pv 2)) (vb_slot (pv 3)) (fun _ _ => rfl))) va_nil)) rfl)) (vb_slot (pv 0)) (by rfl)) (vss_one (vs_ret (ve_up ve_bl) rfl (by intro i q h; cases h))) vss_nil))) (vss_one (vs_ret (ve_up ve_bl) rfl (by intro i q h; cases h)))))⟩
def b_are_ranks : Es := (sSeq (sIf (eOr (eNot (eTru (.ex (eFn [.brw] v_are_wholes [.bor (.slot 1)])))) (eTB (eBin dNe (.ex (eCall fLen [.bor (.slot 1)])) (.slot 0)))) (sRet (eUp (eC (.bl false)))) sNil) (sRet (eUp (eBin dGe (.ex (eCall fMinL [.bor (.slot 1)])) (.ex (eNeg (eC (.int 1))))))))
def v_are_ranks : Fe := fun ds => noexn (fnEv [.brw, .brw] 2 b_are_ranks ds)
theorem ok_are_ranks (T : Top K mg) : FnOk P w K mg base CX0 5 T.a_are_ranks T.d_are_ranks ["n", "ranks"] (spFn K mg [.brw, .brw] .own v_are_ranks EX0) := by
  refine fn_ok0 (N := N_are_ranks) (As := List.range 2) T.F_are_ranks sc_are_ranks rfl (by decide) (fun cdv A outer s H vs E hr hl hio => ?_) (.inl rfl)
  have hp : PassesOwn (model P w) (A.deeper (envOfC "are_ranks" (defScope s_are_ranks) s.heap.objs.size T.a_are_ranks cdv)) (envOfC "are_ranks" (defScope s_are_ranks) s.heap.objs.size T.a_are_ranks cdv) (fun _ _ => False) := PassesOwn.never
  have hN := sc_are_ranks.nd
  have hu : (A.deeper (envOfC "are_ranks" (defScope s_are_ranks) s.heap.objs.size T.a_are_ranks cdv)).units + 64 < cLine := by have := hr.un; omega
  have hu0 : (A.deeper (envOfC "are_ranks" (defScope s_are_ranks) s.heap.objs.size T.a_are_ranks cdv)).units < cLine := by have := hr.un; omega
  have hu1 : (A.deeper (envOfC "are_ranks" (defScope s_are_ranks) s.heap.objs.size T.a_are_ranks cdv)).units + 65 < cLine := by have := hr.un; omega
  match vs, hl with
  | [x0, x1], _ =>
  exact ⟨[.fz, .fz], (by intro i q h; cases h), (vss_cons (vs_if (vt_bool (vw_or (vt_not (vt_tru (vb_ex (ve_call0 (fe := v_are_wholes) (pms := [.brw]) (.inl rfl) (va_cons (va_bor (vb_slot (pv 1))) va_nil) rfl (nodupB rfl) rfl (fun h => pe_call (ok_are_wholes T) (hr.mono (by decide)) (by rfl) T.m_are_wholes T.F_are_wholes.kp T.b_are_wholes .nil pass0 h))))) (vw_or1 (vt_cmp (op_neA hu) f_ne (vb_ex (ve_callB b_len c_len (by rfl) T.z_len (by decide +kernel) (va_cons (va_bor (vb_slot (pv 1))) va_nil))) (vb_slot (pv 0)) (nomark _))))) (vss_one (vs_ret (ve_up ve_bl) rfl (by intro i q h; cases h))) vss_nil) (vss_one (vs_ret (ve_up (ve_cmp op_geA f_ge (vb_ex (ve_callB (cr_min rfl) c_minL (by rfl) T.z_min (by decide +kernel) (va_cons (va_bor (vb_slot (pv 1))) va_nil))) (vb_ex (ve_neg ve_int)) (nomark _))) rfl (by intro i q h; cases h))))⟩
def b_shows_ends : Es := (sSeq (sIf (eOr (eNot (eTru (.ex (eFn [.brw, .brw] v_are_ranks [.bor (.slot 0), .bor (.slot 3)])))) (eTB (eBin dLt (.ex (eBin dIx (.slot 3) (.slot 2))) (.ex (eC (.int 0)))))) (sRet (eUp (eC (.bl false)))) sNil) (sSeq (sFor (eIt (eVar 1)) (.tup [(.name 4), (.name 5)]) (sIf (eAnd (eTB (eBin dGe (.ex (eBin dIx (.slot 3) (.slot 4))) (.ex (eC (.int 0))))) (eNot (eTB (eChain dLe dLt (.ex (eC (.int 0))) (.ex (eBin dIx (.slot 3) (.slot 5))) (.ex (eBin dIx (.slot 3) (.slot 4))))))) (sRet (eUp (eC (.bl false)))) sNil)) (sRet (eUp (eC (.bl true))))))
def v_shows_ends : Fe := fun ds => noexn (fnEv [.brw, .brw, .brw, .brw] 6 b_shows_ends ds)
theorem ok_shows_ends (T : Top K mg) : FnOk P w K mg base CX0 6 T.a_shows_ends T.d_shows_ends ["n", "moves", "start", "ranks"] (spFn K mg [.brw, .brw, .brw, .brw] .own v_shows_ends EX0) := by
  refine fn_ok0 (N := N_shows_ends) (As := List.range 6) T.F_shows_ends sc_shows_ends rfl (by decide) (fun cdv A outer s H vs E hr hl hio => ?_) (.inl rfl)
  have hp : PassesOwn (model P w) (A.deeper (envOfC "shows_ends" (defScope s_shows_ends) s.heap.objs.size T.a_shows_ends cdv)) (envOfC "shows_ends" (defScope s_shows_ends) s.heap.objs.size T.a_shows_ends cdv) (fun _ _ => False) := PassesOwn.never
  have hN := sc_shows_ends.nd
  have hu : (A.deeper (envOfC "shows_ends" (defScope s_shows_ends) s.heap.objs.size T.a_shows_ends cdv)).units + 64 < cLine := by have := hr.un; omega
  have hu0 : (A.deeper (envOfC "shows_ends" (defScope s_shows_ends) s.heap.objs.size T.a_shows_ends cdv)).units < cLine := by have := hr.un; omega
  have hu1 : (A.deeper (envOfC "shows_ends" (defScope s_shows_ends) s.heap.objs.size T.a_shows_ends cdv)).units + 65 < cLine := by have := hr.un; omega
  match vs, hl with
  | [x0, x1, x2, x3], _ =>
  exact ⟨[.fz, .fz, .fz, .fz, .fz, .fz], (by intro i q h; cases h), (vss_cons (vs_if (vt_bool (vw_or (vt_not (vt_tru (vb_ex (ve_call0 (fe := v_are_ranks) (pms := [.brw, .brw]) (.inl rfl) (va_cons (va_bor (vb_slot (pv 0))) (va_cons (va_bor (vb_slot (pv 3))) va_nil)) rfl (nodupB rfl) rfl (fun h => pe_call (ok_are_ranks T) (hr.mono (by decide)) (by rfl) T.m_are_ranks T.F_are_ranks.kp T.b_are_ranks .nil pass0 h))))) (vw_or1 (vt_cmp (op_ltA hu0) f_lt (vb_ex (ve_ix ix_seq f_ix (vb_slot (pv 3)) (vb_slot (pv 2)) (fun _ _ => rfl))) (vb_ex ve_int) (nomark _))))) (vss_one (vs_ret (ve_up ve_bl) rfl (by intro i q h; cases h))) vss_nil) (vss_cons (vs_for hp rfl (vi_any (vb_brw (pv 1) rfl)) (vg_tup rfl (vgs_cons (vg_name hN rfl (by first | exact .inl rfl | exact .inr rfl) rfl (memB rfl)) (vgs_cons (vg_name hN rfl (by first | exact .inl rfl | exact .inr rfl) rfl (memB rfl)) vgs_nil))) (vss_one (vs_if (vt_bool (vw_and (vt_cmp op_geA f_ge (vb_ex (ve_ix ix_seq f_ix (vb_slot (pv 3)) (vb_slot (pv 4)) (fun _ _ => rfl))) (vb_ex ve_int) (nomark _)) (vw_and1 (vt_not (vt_chain op_leA (op_ltA hu0) f_le f_lt (vb_ex ve_int) (vb_ex (ve_ix ix_seq f_ix (vb_slot (pv 3)) (vb_slot (pv 5)) (fun _ _ => rfl))) (vb_ex (ve_ix ix_seq f_ix (vb_slot (pv 3)) (vb_slot (pv 4)) (fun _ _ => rfl)))))))) (vss_one (vs_ret (ve_up ve_bl) rfl (by intro i q h; cases h))) vss_nil))) (vss_one (vs_ret (ve_up ve_bl) rfl (by intro i q h; cases h)))))⟩
def b_shows_round : Es := (sSeq (sIf (eOr (eNot (eTru (.ex (eFn [.brw, .brw, .brw] v_is_run [.bor (.slot 1), .bor (.slot 2), .bor (.slot 3)])))) (eNot (eTru (.ex (eFn [.brw, .brw, .brw] v_is_run [.bor (.slot 1), .bor (.ex (eBin dIx (.slot 3) (.ex (eNeg (eC (.int 1)))))), .bor (.slot 4)]))))) (sRet (eUp (eC (.bl false)))) sNil) (sRet (eUp (eAndV (eBin dGt (.ex (eCall fLen [.bor (.slot 4)])) (.ex (eC (.int 1)))) (eBin dEq (.ex (eBin dIx (.slot 4) (.ex (eNeg (eC (.int 1)))))) (.ex (eBin dIx (.slot 3) (.ex (eNeg (eC (.int 1)))))))))))
def v_shows_round : Fe := fun ds => noexn (fnEv [.brw, .brw, .brw, .brw, .brw] 5 b_shows_round ds)
theorem ok_shows_round (T : Top K mg) : FnOk P w K mg base CX0 6 T.a_shows_round T.d_shows_round ["n", "moves", "start", "stem", "loop"] (spFn K mg [.brw, .brw, .brw, .brw, .brw] .own v_shows_round EX0) := by
  refine fn_ok0 (N := N_shows_round) (As := List.range 5) T.F_shows_round sc_shows_round rfl (by decide) (fun cdv A outer s H vs E hr hl hio => ?_) (.inl rfl)
  have hp : PassesOwn (model P w) (A.deeper (envOfC "shows_round" (defScope s_shows_round) s.heap.objs.size T.a_shows_round cdv)) (envOfC "shows_round" (defScope s_shows_round) s.heap.objs.size T.a_shows_round cdv) (fun _ _ => False) := PassesOwn.never
  have hN := sc_shows_round.nd
  have hu : (A.deeper (envOfC "shows_round" (defScope s_shows_round) s.heap.objs.size T.a_shows_round cdv)).units + 64 < cLine := by have := hr.un; omega
  have hu0 : (A.deeper (envOfC "shows_round" (defScope s_shows_round) s.heap.objs.size T.a_shows_round cdv)).units < cLine := by have := hr.un; omega
  have hu1 : (A.deeper (envOfC "shows_round" (defScope s_shows_round) s.heap.objs.size T.a_shows_round cdv)).units + 65 < cLine := by have := hr.un; omega
  match vs, hl with
  | [x0, x1, x2, x3, x4], _ =>
  exact ⟨[.fz, .fz, .fz, .fz, .fz], (by intro i q h; cases h), (vss_cons (vs_if (vt_bool (vw_or (vt_not (vt_tru (vb_ex (ve_call0 (fe := v_is_run) (pms := [.brw, .brw, .brw]) (.inl rfl) (va_cons (va_bor (vb_slot (pv 1))) (va_cons (va_bor (vb_slot (pv 2))) (va_cons (va_bor (vb_slot (pv 3))) va_nil))) rfl (nodupB rfl) rfl (fun h => pe_call (ok_is_run T) (hr.mono (by decide)) (by rfl) T.m_is_run T.F_is_run.kp T.b_is_run .nil pass0 h))))) (vw_or1 (vt_not (vt_tru (vb_ex (ve_call0 (fe := v_is_run) (pms := [.brw, .brw, .brw]) (.inl rfl) (va_cons (va_bor (vb_slot (pv 1))) (va_cons (va_bor (vb_ex (ve_ix ix_seq f_ix (vb_slot (pv 3)) (vb_ex (ve_neg ve_int)) (fun _ _ => rfl)))) (va_cons (va_bor (vb_slot (pv 4))) va_nil))) rfl (nodupB rfl) rfl (fun h => pe_call (ok_is_run T) (hr.mono (by decide)) (by rfl) T.m_is_run T.F_is_run.kp T.b_is_run .nil pass0 h)))))))) (vss_one (vs_ret (ve_up ve_bl) rfl (by intro i q h; cases h))) vss_nil) (vss_one (vs_ret (ve_up (ve_and (ve_cmp op_gtA f_gt (vb_ex (ve_callB b_len c_len (by rfl) T.z_len (by decide +kernel) (va_cons (va_bor (vb_slot (pv 4))) va_nil))) (vb_ex ve_int) (nomark _)) (ve_one (ve_cmp (op_eqA hu) f_eq (vb_ex (ve_ix ix_seq f_ix (vb_slot (pv 4)) (vb_ex (ve_neg ve_int)) (fun _ _ => rfl))) (vb_ex (ve_ix ix_seq f_ix (vb_slot (pv 3)) (vb_ex (ve_neg ve_int)) (fun _ _ => rfl))) (nomark _))))) rfl (by intro i q h; cases h))))⟩
def b__law_feed : Es := (sRet (eLst [.val (eCall fList [.bor (.slot 0)]), .val (eC (.int 0)), .val (eC (.int 0)), .val (eC (.int 1))]))
def v__law_feed : Fe := fun ds => noexn (fnEv [.brw] 1 b__law_feed ds)
theorem ok__law_feed (T : Top K mg) : FnOk P w K mg base CX0 3 T.a__law_feed T.d__law_feed ["script"] (spFn K mg [.brw] .own v__law_feed EX0) := by
  refine fn_ok0 (N := N__law_feed) (As := List.range 1) T.F__law_feed sc__law_feed rfl (by decide) (fun cdv A outer s H vs E hr hl hio => ?_) (.inl rfl)
  have hp : PassesOwn (model P w) (A.deeper (envOfC "_law_feed" (defScope s__law_feed) s.heap.objs.size T.a__law_feed cdv)) (envOfC "_law_feed" (defScope s__law_feed) s.heap.objs.size T.a__law_feed cdv) (fun _ _ => False) := PassesOwn.never
  have hN := sc__law_feed.nd
  have hu : (A.deeper (envOfC "_law_feed" (defScope s__law_feed) s.heap.objs.size T.a__law_feed cdv)).units + 64 < cLine := by have := hr.un; omega
  have hu0 : (A.deeper (envOfC "_law_feed" (defScope s__law_feed) s.heap.objs.size T.a__law_feed cdv)).units < cLine := by have := hr.un; omega
  have hu1 : (A.deeper (envOfC "_law_feed" (defScope s__law_feed) s.heap.objs.size T.a__law_feed cdv)).units + 65 < cLine := by have := hr.un; omega
  match vs, hl with
  | [x0], _ =>
  exact ⟨[.fz], (by intro i q h; cases h), (vss_one (vs_ret (ve_lst (va_cons (va_val (ve_coe (ve_callTy call_list_of c_list (by rfl) T.z_list (by decide +kernel) (va_cons (va_bor (vb_slot (pv 0))) va_nil)))) (va_cons (va_val ve_int) (va_cons (va_val ve_int) (va_cons (va_val ve_int) va_nil)))) rfl) rfl (by intro i q h; cases h)))⟩
def b__law_draw : Es := (sSeq (sIf (eAnd (eTB (eBin dEq (.ex (eBin dIx (.slot 0) (.ex (eC (.int 2))))) (.ex (eC (.int 0))))) (eTB (eBin dLt (.ex (eBin dIx (.slot 0) (.ex (eC (.int 1))))) (.ex (eCall fLen [.bor (.ex (eBin dIx (.slot 0) (.ex (eC (.int 0)))))]))))) (sSeq (sSet 2 (eCall fAbs [.bor (.ex (eCall fInt [.bor (.ex (eBin dIx (.ex (eBin dIx (.slot 0) (.ex (eC (.int 0))))) (.ex (eBin dIx (.slot 0) (.ex (eC (.int 1)))))))]))])) (sSeq (sAugIx 0 (fun i j => i + j) (eC (.int 1)) (eC (.int 1))) (sIf (eTB (eBin dGe (.slot 2) (.ex (eBin dPow (.ex (eC (.int 10))) (.ex (eC (.int 18))))))) (sSetIx 0 (eC (.int 2)) (eVar 2)) (sSetIx 0 (eC (.int 3)) (eBin dMod (.ex (eCall fInt [.bor (.ex (eBin dAdd (.ex (eBin dAdd (.ex (eBin dMul (.ex (eBin dIx (.slot 0) (.ex (eC (.int 3))))) (.ex (eC (.int 48271))))) (.ex (eBin dMul (.slot 2) (.ex (eC (.int 69621))))))) (.ex (eBin dIx (.slot 0) (.ex (eC (.int 1)))))))])) (.ex (eC (.int 2147483647)))))))) sNil) (sSeq (sIf (eTB (eBin dGt (.ex (eBin dIx (.slot 0) (.ex (eC (.int 2))))) (.ex (eC (.int 0))))) (sSeq (sSet 3 (eBin dMod (.ex (eCall fInt [.bor (.ex (eBin dIx (.slot 0) (.ex (eC (.int 2)))))])) (.slot 1))) (sSeq (sSetIx 0 (eC (.int 2)) (eBin dFdiv (.ex (eBin dIx (.slot 0) (.ex (eC (.int 2))))) (.slot 1))) (sRet (eVar 3)))) sNil) (sSeq (sSetIx 0 (eC (.int 3)) (eBin dMod (.ex (eCall fInt [.bor (.ex (eBin dAdd (.ex (eBin dMul (.ex (eBin dIx (.slot 0) (.ex (eC (.int 3))))) (.ex (eC (.int 16807))))) (.ex (eC (.int 12345)))))])) (.ex (eC (.int 2147483647))))) (sSeq (sSet 4 (eBin dMod (.ex (eCall fInt [.bor (.ex (eBin dAdd (.ex (eBin dMul (.ex (eBin dIx (.slot 0) (.ex (eC (.int 3))))) (.ex (eBin dIx (.slot 0) (.ex (eC (.int 3))))))) (.ex (eBin dIx (.slot 0) (.ex (eC (.int 3)))))))])) (.ex (eC (.int 2147483629))))) (sRet (eBin dMod (.ex (eBin dFdiv (.slot 4) (.ex (eC (.int 11))))) (.slot 1)))))))
def v__law_draw : Fe := fun ds => noexn (fnEv [.io, .brw] 5 b__law_draw ds)
theorem ok__law_draw (T : Top K mg) : FnOk P w K mg base CX0 3 T.a__law_draw T.d__law_draw ["feed", "many"] (spFn K mg [.io, .brw] .fz v__law_draw EX0) := by
  refine fn_ok0 (N := N__law_draw) (As := List.range 5) T.F__law_draw sc__law_draw rfl (by decide) (fun cdv A outer s H vs E hr hl hio => ?_) (.inr rfl)
  have hp : PassesOwn (model P w) (A.deeper (envOfC "_law_draw" (defScope s__law_draw) s.heap.objs.size T.a__law_draw cdv)) (envOfC "_law_draw" (defScope s__law_draw) s.heap.objs.size T.a__law_draw cdv) (fun _ _ => False) := PassesOwn.never
  have hN := sc__law_draw.nd
  have hu : (A.deeper (envOfC "_law_draw" (defScope s__law_draw) s.heap.objs.size T.a__law_draw cdv)).units + 64 < cLine := by have := hr.un; omega
  have hu0 : (A.deeper (envOfC "_law_draw" (defScope s__law_draw) s.heap.objs.size T.a__law_draw cdv)).units < cLine := by have := hr.un; omega
  have hu1 : (A.deeper (envOfC "_law_draw" (defScope s__law_draw) s.heap.objs.size T.a__law_draw cdv)).units + 65 < cLine := by have := hr.un; omega
  match vs, hl with
  | [x0, x1], _ =>
  obtain ⟨p0, rfl⟩ := hio 0 x0 rfl rfl
  exact ⟨[.io p0, .fz, .fz, .fz, .fz], (by intro i q h; simp [io0, SC.loop] at h; rw [h.1, h.2]; rfl), (vss_cons (vs_if (vt_bool (vw_and (vt_cmp (op_eqA hu) f_eq (vb_ex (ve_ix ix_seq f_ix (vb_slot (pv 0)) (vb_ex ve_int) (fun _ _ => rfl))) (vb_ex ve_int) (nomark _)) (vw_and1 (vt_cmp (op_ltA hu0) f_lt (vb_ex (ve_ix ix_seq f_ix (vb_slot (pv 0)) (vb_ex ve_int) (fun _ _ => rfl))) (vb_ex (ve_callB b_len c_len (by rfl) T.z_len (by decide +kernel) (va_cons (va_bor (vb_ex (ve_ix ix_seq f_ix (vb_slot (pv 0)) (vb_ex ve_int) (fun _ _ => rfl)))) va_nil))) (nomark _))))) (vss_cons (vs_set hN rfl (by first | exact .inl rfl | exact .inr rfl) (ve_callB call_abs c_abs (by rfl) T.z_abs (by decide +kernel) (va_cons (va_bor (vb_ex (ve_callTy call_int1 c_int (by rfl) T.z_int (by decide +kernel) (va_cons (va_bor (vb_ex (ve_ix ix_seq f_ix (vb_ex (ve_ix ix_seq f_ix (vb_slot (pv 0)) (vb_ex ve_int) (fun _ _ => rfl))) (vb_ex (ve_ix ix_seq f_ix (vb_slot (pv 0)) (vb_ex ve_int) (fun _ _ => rfl))) (fun _ _ => rfl)))) va_nil)))) va_nil)) (.inl rfl) (ltB rfl) (memB rfl)) (vss_cons (vs_augIx (ps_augS (pv 0) ve_int pg_list ve_int ip_add set_list) rfl rfl) (vss_one (vs_if (vt_cmp op_geA f_ge (vb_slot (pv 2)) (vb_ex (ve_bin op_pow f_pow (vb_ex ve_int) (vb_ex ve_int))) (nomark _)) (vss_one (vs_setIx (ve_fz (pv 2) rfl) (pg_sub (pv 0) ve_int set_list) rfl rfl)) (vss_one (vs_setIx (ve_bin op_modN f_mod (vb_ex (ve_callTy call_int1 c_int (by rfl) T.z_int (by decide +kernel) (va_cons (va_bor (vb_ex (ve_bin op_addA f_add (vb_ex (ve_bin op_addA f_add (vb_ex (ve_bin op_mulA f_mul (vb_ex (ve_ix ix_seq f_ix (vb_slot (pv 0)) (vb_ex ve_int) (fun _ _ => rfl))) (vb_ex ve_int))) (vb_ex (ve_bin op_mulA f_mul (vb_slot (pv 2)) (vb_ex ve_int))))) (vb_ex (ve_ix ix_seq f_ix (vb_slot (pv 0)) (vb_ex ve_int) (fun _ _ => rfl)))))) va_nil))) (vb_ex ve_int)) (pg_sub (pv 0) ve_int set_list) rfl rfl)))))) vss_nil) (vss_cons (vs_if (vt_cmp op_gtA f_gt (vb_ex (ve_ix ix_seq f_ix (vb_slot (pv 0)) (vb_ex ve_int) (fun _ _ => rfl))) (vb_ex ve_int) (nomark _)) (vss_cons (vs_set hN rfl (by first | exact .inl rfl | exact .inr rfl) (ve_bin op_modN f_mod (vb_ex (ve_callTy call_int1 c_int (by rfl) T.z_int (by decide +kernel) (va_cons (va_bor (vb_ex (ve_ix ix_seq f_ix (vb_slot (pv 0)) (vb_ex ve_int) (fun _ _ => rfl)))) va_nil))) (vb_slot (pv 1))) (.inl rfl) (ltB rfl) (memB rfl)) (vss_cons (vs_setIx (ve_bin op_fdivN f_fdiv (vb_ex (ve_ix ix_seq f_ix (vb_slot (pv 0)) (vb_ex ve_int) (fun _ _ => rfl))) (vb_slot (pv 1))) (pg_sub (pv 0) ve_int set_list) rfl rfl) (vss_one (vs_ret (ve_fz (pv 3) rfl) rfl (by intro i q h; simp [io0, SC.loop] at h; rw [h.1, h.2]; rfl))))) vss_nil) (vss_cons (vs_setIx (ve_bin op_modN f_mod (vb_ex (ve_callTy call_int1 c_int (by rfl) T.z_int (by decide +kernel) (va_cons (va_bor (vb_ex (ve_bin op_addA f_add (vb_ex (ve_bin op_mulA f_mul (vb_ex (ve_ix ix_seq f_ix (vb_slot (pv 0)) (vb_ex ve_int) (fun _ _ => rfl))) (vb_ex ve_int))) (vb_ex ve_int)))) va_nil))) (vb_ex ve_int)) (pg_sub (pv 0) ve_int set_list) rfl rfl) (vss_cons (vs_set hN rfl (by first | exact .inl rfl | exact .inr rfl) (ve_bin op_modN f_mod (vb_ex (ve_callTy call_int1 c_int (by rfl) T.z_int (by decide +kernel) (va_cons (va_bor (vb_ex (ve_bin op_addA f_add (vb_ex (ve_bin op_mulA f_mul (vb_ex (ve_ix ix_seq f_ix (vb_slot (pv 0)) (vb_ex ve_int) (fun _ _ => rfl))) (vb_ex (ve_ix ix_seq f_ix (vb_slot (pv 0)) (vb_ex ve_int) (fun _ _ => rfl))))) (vb_ex (ve_ix ix_seq f_ix (vb_slot (pv 0)) (vb_ex ve_int) (fun _ _ => rfl)))))) va_nil))) (vb_ex ve_int)) (.inl rfl) (ltB rfl) (memB rfl)) (vss_one (vs_ret (ve_bin op_modN f_mod (vb_ex (ve_bin op_fdivN f_fdiv (vb_slot (pv 4)) (vb_ex ve_int))) (vb_slot (pv 1))) rfl (by intro i q h; simp [io0, SC.loop] at h; rw [h.1, h.2]; rfl)))))))⟩
def b__law_is_whole : Es := (sRet (eUp (eAndV (eCall (fIsi "int") [.bor (.slot 0), .val eTy]) (eNotV (eCall (fIsi "bool") [.bor (.slot 0), .val eTy])))))
def v__law_is_whole : Fe := fun ds => noexn (fnEv [.brw] 1 b__law_is_whole ds)
theorem ok__law_is_whole (T : Top K mg) : FnOk P w K mg base CX0 3 T.a__law_is_whole T.d__law_is_whole ["x"] (spFn K mg [.brw] .own v__law_is_whole EX0) := by
  refine fn_ok0 (N := N__law_is_whole) (As := List.range 1) T.F__law_is_whole sc__law_is_whole rfl (by decide) (fun cdv A outer s H vs E hr hl hio => ?_) (.inl rfl)
  have hp : PassesOwn (model P w) (A.deeper (envOfC "_law_is_whole" (defScope s__law_is_whole) s.heap.objs.size T.a__law_is_whole cdv)) (envOfC "_law_is_whole" (defScope s__law_is_whole) s.heap.objs.size T.a__law_is_whole cdv) (fun _ _ => False) := PassesOwn.never
  have hN := sc__law_is_whole.nd
  have hu : (A.deeper (envOfC "_law_is_whole" (defScope s__law_is_whole) s.heap.objs.size T.a__law_is_whole cdv)).units + 64 < cLine := by have := hr.un; omega
  have hu0 : (A.deeper (envOfC "_law_is_whole" (defScope s__law_is_whole) s.heap.objs.size T.a__law_is_whole cdv)).units < cLine := by have := hr.un; omega
  have hu1 : (A.deeper (envOfC "_law_is_whole" (defScope s__law_is_whole) s.heap.objs.size T.a__law_is_whole cdv)).units + 65 < cLine := by have := hr.un; omega
  match vs, hl with
  | [x0], _ =>
  exact ⟨[.fz], (by intro i q h; cases h), (vss_one (vs_ret (ve_up (ve_and (ve_isi (T := "int") (by decide +kernel) (.ty _) (vb_slot (pv 0)) (fun h => pe_callB call_isi (by rfl) T.z_isinstance (by decide +kernel) (pa_cons h (pa_cons (pe_bltn (v := .ty "int") (by rfl) T.z_int (by decide +kernel) rfl) pa_nil)))) (ve_one (ve_not (ve_isi (T := "bool") (by decide +kernel) (.ty _) (vb_slot (pv 0)) (fun h => pe_callB call_isi (by rfl) T.z_isinstance (by decide +kernel) (pa_cons h (pa_cons (pe_bltn (v := .ty "bool") (by rfl) T.z_bool (by decide +kernel) rfl) pa_nil)))))))) rfl (by intro i q h; cases h)))⟩
def b__law_same : Es := (sRet (eUp (eAndV (eCall (fIsi "bool") [.bor (.slot 0), .val eTy]) (eBin dEq (.slot 0) (.slot 1)))))
def v__law_same : Fe := fun ds => noexn (fnEv [.brw, .brw] 2 b__law_same ds)
theorem ok__law_same (T : Top K mg) : FnOk P w K mg base CX0 3 T.a__law_same T.d__law_same ["told", "due"] (spFn K mg [.brw, .brw] .own v__law_same EX0) := by
  refine fn_ok0 (N := N__law_same) (As := List.range 2) T.F__law_same sc__law_same rfl (by decide) (fun cdv A outer s H vs E hr hl hio => ?_) (.inl rfl)
  have hp : PassesOwn (model P w) (A.deeper (envOfC "_law_same" (defScope s__law_same) s.heap.objs.size T.a__law_same cdv)) (envOfC "_law_same" (defScope s__law_same) s.heap.objs.size T.a__law_same cdv) (fun _ _ => False) := PassesOwn.never
  have hN := sc__law_same.nd
  have hu : (A.deeper (envOfC "_law_same" (defScope s__law_same) s.heap.objs.size T.a__law_same cdv)).units + 64 < cLine := by have := hr.un; omega
  have hu0 : (A.deeper (envOfC "_law_same" (defScope s__law_same) s.heap.objs.size T.a__law_same cdv)).units < cLine := by have := hr.un; omega
  have hu1 : (A.deeper (envOfC "_law_same" (defScope s__law_same) s.heap.objs.size T.a__law_same cdv)).units + 65 < cLine := by have := hr.un; omega
  match vs, hl with
  | [x0, x1], _ =>
  exact ⟨[.fz, .fz], (by intro i q h; cases h), (vss_one (vs_ret (ve_up (ve_and (ve_isi (T := "bool") (by decide +kernel) (.ty _) (vb_slot (pv 0)) (fun h => pe_callB call_isi (by rfl) T.z_isinstance (by decide +kernel) (pa_cons h (pa_cons (pe_bltn (v := .ty "bool") (by rfl) T.z_bool (by decide +kernel) rfl) pa_nil)))) (ve_one (ve_cmp (op_eqA hu) f_eq (vb_slot (pv 0)) (vb_slot (pv 1)) (nomark _))))) rfl (by intro i q h; cases h)))⟩
def b__law_names : Es := (sSeq (sSet 2 (eLst [])) (sSeq (sFor (eRng [.val (eVar 1)]) (.name 3) (sSeq (sSet 4 (eFn [.io, .brw] v__law_draw [.io 0, .bor (.ex (eBin dAdd (.slot 3) (.ex (eC (.int 1)))))])) (sSet 2 (eBin dAdd (.ex (eBin dAdd (.ex (eSl (.slot 2) none (some (eVar 4)))) (.ex (eLst [.val (eVar 3)])))) (.ex (eSl (.slot 2) (some (eVar 4)) none)))))) (sRet (eOut [0] 2))))
def v__law_names : Fe := fun ds => noexn (fnEv [.io, .fz] 5 b__law_names ds)
theorem ok__law_names (T : Top K mg) : FnOk P w K mg base CX0 4 T.a__law_names T.d__law_names ["feed", "n"] (spFn K mg [.io, .fz] .own v__law_names EX0) := by
  refine fn_ok0 (N := N__law_names) (As := List.range 5) T.F__law_names sc__law_names rfl (by decide) (fun cdv A outer s H vs E hr hl hio => ?_) (.inl rfl)
  have hp : PassesOwn (model P w) (A.deeper (envOfC "_law_names" (defScope s__law_names) s.heap.objs.size T.a__law_names cdv)) (envOfC "_law_names" (defScope s__law_names) s.heap.objs.size T.a__law_names cdv) (fun _ _ => False) := PassesOwn.never
  have hN := sc__law_names.nd
  have hu : (A.deeper (envOfC "_law_names" (defScope s__law_names) s.heap.objs.size T.a__law_names cdv)).units + 64 < cLine := by have := hr.un; omega
  have hu0 : (A.deeper (envOfC "_law_names" (defScope s__law_names) s.heap.objs.size T.a__law_names cdv)).units < cLine := by have := hr.un; omega
  have hu1 : (A.deeper (envOfC "_law_names" (defScope s__law_names) s.heap.objs.size T.a__law_names cdv)).units + 65 < cLine := by have := hr.un; omega
  match vs, hl with
  | [x0, x1], _ =>
  obtain ⟨p0, rfl⟩ := hio 0 x0 rfl rfl
  exact ⟨[.io p0, .fz, .fz, .fz, .fz], (by intro i q h; simp [io0, SC.loop] at h; rw [h.1, h.2]; rfl), (vss_cons (vs_set hN rfl (by first | exact .inl rfl | exact .inr rfl) (ve_lst va_nil rfl) (.inr rfl) (ltB rfl) (memB rfl)) (vss_cons (vs_for hp rfl (vi_rng1 (by rfl) T.z_range (va_cons (va_val (ve_fz (pv 1) rfl)) va_nil)) (vg_name hN rfl (by first | exact .inl rfl | exact .inr rfl) rfl (memB rfl)) (vss_cons (vs_set hN rfl (by first | exact .inl rfl | exact .inr rfl) (ve_call0 (fe := v__law_draw) (pms := [.io, .brw]) (.inr rfl) (va_cons (va_io (pv 0)) (va_cons (va_bor (vb_ex (ve_bin op_addA f_add (vb_slot (pv 3)) (vb_ex ve_int)))) va_nil)) rfl (nodupB rfl) rfl (fun h => pe_call (ok__law_draw T) (hr.mono (by decide)) (by rfl) T.m__law_draw T.F__law_draw.kp T.b__law_draw .nil pass0 h)) (.inl rfl) (ltB rfl) (memB rfl)) (vss_one (vs_setE hN rfl (by first | exact .inl rfl | exact .inr rfl) (ve_bin op_addA f_add (vb_ex (ve_bin op_addA f_add (vb_ex (ve_slice (vb_slot (pv 2)) vpo_none (vpo_some (ve_fz (pv 4) rfl)))) (vb_ex (ve_lst (va_cons (va_val (ve_fz (pv 3) rfl)) va_nil) rfl)))) (vb_ex (ve_slice (vb_slot (pv 2)) (vpo_some (ve_fz (pv 4) rfl)) vpo_none))) (.inr rfl) (ltB rfl) (memB rfl))))) (vss_one (vs_retOwn (js := [0]) (pv 2) rfl rfl (by intro i q h; simp [io0, SC.loop] at h; rw [h.1, h.2]; rfl) (by intro i q h; simp [io0, SC.loop] at h; rw [h.1]; decide)))))⟩
def b__law_course : Es := (sSeq (sSet 1 (eBin dAdd (.ex (eC (.int 1))) (.ex (eFn [.io, .brw] v__law_draw [.io 0, .bor (.ex (eC (.int 7)))])))) (sSeq (sSet 2 (eFn [.io, .brw] v__law_draw [.io 0, .bor (.ex (eBin dAdd (.ex (eBin dMul (.ex (eC (.int 2))) (.slot 1))) (.ex (eC (.int 2)))))])) (sSeq (sIf (eTB (eBin dEq (.ex (eFn [.io, .brw] v__law_draw [.io 0, .bor (.ex (eC (.int 8)))])) (.ex (eC (.int 0))))) (sSeq (sSet 1 (eBin dAdd (.ex (eC (.int 12))) (.ex (eFn [.io, .brw] v__law_draw [.io 0, .bor (.ex (eC (.int 9)))])))) (sSet 2 (eBin dAdd (.ex (eC (.int 20))) (.ex (eFn [.io, .brw] v__law_draw [.io 0, .bor (.ex (eC (.int 41)))]))))) sNil) (sSeq (sSet 3 (eCall (fJoin []) [.bor (.ex (eLC (eRng [.val (eVar 1)]) [7] (.name 7) tYesE (eBin dIx (.ex (eC (.str [104, 112]))) (.ex (eFn [.io, .brw] v__law_draw [.io 0, .bor (.ex (eC (.int 2)))])))))])) (sSeq (sSet 4 (eFn [.io, .fz] v__law_names [.io 0, .val (eVar 1)])) (sSeq (sSet 5 (eBin dEq (.ex (eFn [.io, .brw] v__law_draw [.io 0, .bor (.ex (eC (.int 2)))])) (.ex (eC (.int 0))))) (sSeq (sSet 6 (eLst [])) (sSeq (sFor (eRng [.val (eVar 2)]) (.name 7) (sSeq (sSet 8 (eFn [.io, .brw] v__law_draw [.io 0, .bor (.slot 1)])) (sSeq (sSet 9 (eFn [.io, .brw] v__law_draw [.io 0, .bor (.slot 1)])) (sSeq (sIf (eAnd (eTru (.slot 5)) (eTB (eBin dGt (.slot 8) (.slot 9)))) (sPar 8 9 [.val (eVar 9), .val (eVar 8)]) sNil) (sIf (eOr (eTB (eBin dNe (.slot 8) (.slot 9))) (eNot (eTru (.slot 5)))) (sExpr (eMut 6 mAppend [.val (eTup [.val (eBin dIx (.slot 4) (.slot 8)), .val (eBin dIx (.slot 4) (.slot 9))])])) sNil))))) (sRet (eUp (eTup [.val (eVar 1), .val (eVar 3), .val (eVar 6)])))))))))))
def v__law_course : Fe := fun ds => noexn (fnEv [.io] 10 b__law_course ds)
theorem ok__law_course (T : Top K mg) : FnOk P w K mg base CX0 5 T.a__law_course T.d__law_course ["feed"] (spFn K mg [.io] .own v__law_course EX0) := by
  refine fn_ok0 (N := N__law_course) (As := List.range 10) T.F__law_course sc__law_course rfl (by decide) (fun cdv A outer s H vs E hr hl hio => ?_) (.inl rfl)
  have hp : PassesOwn (model P w) (A.deeper (envOfC "_law_course" (defScope s__law_course) s.heap.objs.size T.a__law_course cdv)) (envOfC "_law_course" (defScope s__law_course) s.heap.objs.size T.a__law_course cdv) (fun _ _ => False) := PassesOwn.never
  have hN := sc__law_course.nd
  have hu : (A.deeper (envOfC "_law_course" (defScope s__law_course) s.heap.objs.size T.a__law_course cdv)).units + 64 < cLine := by have := hr.un; omega
  have hu0 : (A.deeper (envOfC "_law_course" (defScope s__law_course) s.heap.objs.size T.a__law_course cdv)).units < cLine := by have := hr.un; omega
  have hu1 : (A.deeper (envOfC "_law_course" (defScope s__law_course) s.heap.objs.size T.a__law_course cdv)).units + 65 < cLine := by have := hr.un; omega
  match vs, hl with
  | [x0], _ =>
  obtain ⟨p0, rfl⟩ := hio 0 x0 rfl rfl
  exact ⟨[.io p0, .fz, .fz, .fz, .fz, .fz, .fz, .fz, .fz, .fz], (by intro i q h; simp [io0, SC.loop] at h; rw [h.1, h.2]; rfl), (vss_cons (vs_set hN rfl (by first | exact .inl rfl | exact .inr rfl) (ve_coe (ve_bin op_addA f_add (vb_ex ve_int) (vb_ex (ve_call0 (fe := v__law_draw) (pms := [.io, .brw]) (.inr rfl) (va_cons (va_io (pv 0)) (va_cons (va_bor (vb_ex ve_int)) va_nil)) rfl (nodupB rfl) rfl (fun h => pe_call (ok__law_draw T) (hr.mono (by decide)) (by rfl) T.m__law_draw T.F__law_draw.kp T.b__law_draw .nil pass0 h))))) (.inl rfl) (ltB rfl) (memB rfl)) (vss_cons (vs_set hN rfl (by first | exact .inl rfl | exact .inr rfl) (ve_call0 (fe := v__law_draw) (pms := [.io, .brw]) (.inr rfl) (va_cons (va_io (pv 0)) (va_cons (va_bor (vb_ex (ve_bin op_addA f_add (vb_ex (ve_bin op_mulA f_mul (vb_ex ve_int) (vb_slot (pv 1)))) (vb_ex ve_int)))) va_nil)) rfl (nodupB rfl) rfl (fun h => pe_call (ok__law_draw T) (hr.mono (by decide)) (by rfl) T.m__law_draw T.F__law_draw.kp T.b__law_draw .nil pass0 h)) (.inl rfl) (ltB rfl) (memB rfl)) (vss_cons (vs_if (vt_cmp (op_eqA hu) f_eq (vb_ex (ve_call0 (fe := v__law_draw) (pms := [.io, .brw]) (.inr rfl) (va_cons (va_io (pv 0)) (va_cons (va_bor (vb_ex ve_int)) va_nil)) rfl (nodupB rfl) rfl (fun h => pe_call (ok__law_draw T) (hr.mono (by decide)) (by rfl) T.m__law_draw T.F__law_draw.kp T.b__law_draw .nil pass0 h))) (vb_ex ve_int) (nomark _)) (vss_cons (vs_set hN rfl (by first | exact .inl rfl | exact .inr rfl) (ve_coe (ve_bin op_addA f_add (vb_ex ve_int) (vb_ex (ve_call0 (fe := v__law_draw) (pms := [.io, .brw]) (.inr rfl) (va_cons (va_io (pv 0)) (va_cons (va_bor (vb_ex ve_int)) va_nil)) rfl (nodupB rfl) rfl (fun h => pe_call (ok__law_draw T) (hr.mono (by decide)) (by rfl) T.m__law_draw T.F__law_draw.kp T.b__law_draw .nil pass0 h))))) (.inl rfl) (ltB rfl) (memB rfl)) (vss_one (vs_set hN rfl (by first | exact .inl rfl | exact .inr rfl) (ve_coe (ve_bin op_addA f_add (vb_ex ve_int) (vb_ex (ve_call0 (fe := v__law_draw) (pms := [.io, .brw]) (.inr rfl) (va_cons (va_io (pv 0)) (va_cons (va_bor (vb_ex ve_int)) va_nil)) rfl (nodupB rfl) rfl (fun h => pe_call (ok__law_draw T) (hr.mono (by decide)) (by rfl) T.m__law_draw T.F__law_draw.kp T.b__law_draw .nil pass0 h))))) (.inl rfl) (ltB rfl) (memB rfl)))) vss_nil) (vss_cons (vs_set hN rfl (by first | exact .inl rfl | exact .inr rfl) (ve_join (sep := []) (by decide +kernel) (va_cons (va_bor (vb_ex (ve_lc rfl hN (own := [("k", 7)]) (vi_rng1 (by rfl) T.z_range (va_cons (va_val (ve_fz (pv 1) rfl)) va_nil)) (blkOk_by (by kernel_rfl)) (allFz_ok rfl) (fun _ _ _ _ _ => (vg_name hN rfl (by first | exact .inl rfl | exact .inr rfl) rfl (memB rfl))) (fun _ _ _ _ _ => vts_nil) (fun _ _ _ _ _ => (ve_ix ix_seq f_ix (vb_ex (ve_str (l := [104, 112]) (by decide +kernel))) (vb_ex (ve_call0 (fe := v__law_draw) (pms := [.io, .brw]) (.inr rfl) (va_cons (va_io (pv 0)) (va_cons (va_bor (vb_ex ve_int)) va_nil)) rfl (nodupB rfl) rfl (fun h => pe_call (ok__law_draw T) (hr.mono (by decide)) (by rfl) T.m__law_draw T.F__law_draw.kp T.b__law_draw .nil pass0 h))) (fun _ _ => rfl)))))) va_nil) (fun h => pe_bm PySem.F.plainAttrs_str PySem.F.slot_str_join PySem.F.type_str_join mt_join pe_str h)) (.inl rfl) (ltB rfl) (memB rfl)) (vss_cons (vs_set hN rfl (by first | exact .inl rfl | exact .inr rfl) (ve_coe (ve_call0 (fe := v__law_names) (pms := [.io, .fz]) (.inl rfl) (va_cons (va_io (pv 0)) (va_cons (va_val (ve_fz (pv 1) rfl)) va_nil)) rfl (nodupB rfl) rfl (fun h => pe_call (ok__law_names T) (hr.mono (by decide)) (by rfl) T.m__law_names T.F__law_names.kp T.b__law_names .nil pass0 h))) (.inl rfl) (ltB rfl) (memB rfl)) (vss_cons (vs_set hN rfl (by first | exact .inl rfl | exact .inr rfl) (ve_cmp (op_eqA hu) f_eq (vb_ex (ve_call0 (fe := v__law_draw) (pms := [.io, .brw]) (.inr rfl) (va_cons (va_io (pv 0)) (va_cons (va_bor (vb_ex ve_int)) va_nil)) rfl (nodupB rfl) rfl (fun h => pe_call (ok__law_draw T) (hr.mono (by decide)) (by rfl) T.m__law_draw T.F__law_draw.kp T.b__law_draw .nil pass0 h))) (vb_ex ve_int) (nomark _)) (.inl rfl) (ltB rfl) (memB rfl)) (vss_cons (vs_set hN rfl (by first | exact .inl rfl | exact .inr rfl) (ve_lst va_nil rfl) (.inr rfl) (ltB rfl) (memB rfl)) (vss_cons (vs_for hp rfl (vi_rng1 (by rfl) T.z_range (va_cons (va_val (ve_fz (pv 2) rfl)) va_nil)) (vg_name hN rfl (by first | exact .inl rfl | exact .inr rfl) rfl (memB rfl)) (vss_cons (vs_set hN rfl (by first | exact .inl rfl | exact .inr rfl) (ve_call0 (fe := v__law_draw) (pms := [.io, .brw]) (.inr rfl) (va_cons (va_io (pv 0)) (va_cons (va_bor (vb_slot (pv 1))) va_nil)) rfl (nodupB rfl) rfl (fun h => pe_call (ok__law_draw T) (hr.mono (by decide)) (by rfl) T.m__law_draw T.F__law_draw.kp T.b__law_draw .nil pass0 h)) (.inl rfl) (ltB rfl) (memB rfl)) (vss_cons (vs_set hN rfl (by first | exact .inl rfl | exact .inr rfl) (ve_call0 (fe := v__law_draw) (pms := [.io, .brw]) (.inr rfl) (va_cons (va_io (pv 0)) (va_cons (va_bor (vb_slot (pv 1))) va_nil)) rfl (nodupB rfl) rfl (fun h => pe_call (ok__law_draw T) (hr.mono (by decide)) (by rfl) T.m__law_draw T.F__law_draw.kp T.b__law_draw .nil pass0 h)) (.inl rfl) (ltB rfl) (memB rfl)) (vss_cons (vs_if (vt_bool (vw_and (vt_tru (vb_slot (pv 5))) (vw_and1 (vt_cmp op_gtA f_gt (vb_slot (pv 8)) (vb_slot (pv 9)) (nomark _))))) (vss_one (vs_par rfl hN rfl rfl (by decide) rfl rfl (va_cons (va_val (ve_fz (pv 9) rfl)) (va_cons (va_val (ve_fz (pv 8) rfl)) va_nil)) rfl (ltB rfl) (ltB rfl) (memB rfl) (memB rfl))) vss_nil) (vss_one (vs_if (vt_bool (vw_or (vt_cmp (op_neA hu) f_ne (vb_slot (pv 8)) (vb_slot (pv 9)) (nomark _)) (vw_or1 (vt_not (vt_tru (vb_slot (pv 5))))))) (vss_one (vs_expr (ve_mut m_append PySem.F.slot_list_append PySem.F.type_list_append mt_append (pv 6) (va_cons (va_val (ve_tup (va_cons (va_val (ve_ix ix_seq f_ix (vb_slot (pv 4)) (vb_slot (pv 8)) (fun _ _ => rfl))) (va_cons (va_val (ve_ix ix_seq f_ix (vb_slot (pv 4)) (vb_slot (pv 9)) (fun _ _ => rfl))) va_nil)) rfl)) va_nil) rfl rfl rfl))) vss_nil)))))) (vss_one (vs_ret (ve_up (ve_tup (va_cons (va_val (ve_fz (pv 1) rfl)) (va_cons (va_val (ve_fz (pv 3) rfl)) (va_cons (va_val (ve_own (pv 6) rfl)) va_nil))) rfl)) rfl (by intro i q h; simp [io0, SC.loop] at h; rw [h.1, h.2]; rfl)))))))))))⟩
def b__law_are_wholes : Es := (sRet (eUp (eAndV (eCall (fIsi "list") [.bor (.slot 0), .val eTy]) (eBin dEq (.ex (eCall fLen [.bor (.ex (eLC (eIt (eVar 0)) [1] (.name 1) (eTru (.ex (eFn [.brw] v__law_is_whole [.bor (.slot 1)]))) (eVar 1)))])) (.ex (eCall fLen [.bor (.slot 0)]))))))
def v__law_are_wholes : Fe := fun ds => noexn (fnEv [.brw] 2 b__law_are_wholes ds)
theorem ok__law_are_wholes (T : Top K mg) : FnOk P w K mg base CX0 4 T.a__law_are_wholes T.d__law_are_wholes ["row"] (spFn K mg [.brw] .own v__law_are_wholes EX0) := by
  refine fn_ok0 (N := N__law_are_wholes) (As := List.range 2) T.F__law_are_wholes sc__law_are_wholes rfl (by decide) (fun cdv A outer s H vs E hr hl hio => ?_) (.inl rfl)
  have hp : PassesOwn (model P w) (A.deeper (envOfC "_law_are_wholes" (defScope s__law_are_wholes) s.heap.objs.size T.a__law_are_wholes cdv)) (envOfC "_law_are_wholes" (defScope s__law_are_wholes) s.heap.objs.size T.a__law_are_wholes cdv) (fun _ _ => False) := PassesOwn.never
  have hN := sc__law_are_wholes.nd
  have hu : (A.deeper (envOfC "_law_are_wholes" (defScope s__law_are_wholes) s.heap.objs.size T.a__law_are_wholes cdv)).units + 64 < cLine := by have := hr.un; omega
  have hu0 : (A.deeper (envOfC "_law_are_wholes" (defScope s__law_are_wholes) s.heap.objs.size T.a__law_are_wholes cdv)).units < cLine := by have := hr.un; omega
  have hu1 : (A.deeper (envOfC "_law_are_wholes" (defScope s__law_are_wholes) s.heap.objs.size T.a__law_are_wholes cdv)).units + 65 < cLine := by have := hr.un; omega
  match vs, hl with
  | [x0], _ =>
  exact ⟨[.fz, .fz], (by intro i q h; cases h), (vss_one (vs_ret (ve_up (ve_and (ve_isi (T := "list") (by decide +kernel) (.ty _) (vb_slot (pv 0)) (fun h => pe_callB call_isi (by rfl) T.z_isinstance (by decide +kernel) (pa_cons h (pa_cons (pe_bltn (v := .ty "list") (by rfl) T.z_list (by decide +kernel) rfl) pa_nil)))) (ve_one (ve_cmp (op_eqA hu) f_eq (vb_ex (ve_callB b_len c_len (by rfl) T.z_len (by decide +kernel) (va_cons (va_bor (vb_ex (ve_lc rfl hN (own := [("x", 1)]) (vi_any (vb_brw (pv 0) rfl)) (blkOk_by (by kernel_rfl)) (allFz_ok rfl) (fun _ _ _ _ _ => (vg_name hN rfl (by first | exact .inl rfl | exact .inr rfl) rfl (memB rfl))) (fun _ _ _ _ _ => (vts_one (vt_tru (vb_ex (ve_call0 (fe := v__law_is_whole) (pms := [.brw]) (.inl rfl) (va_cons (va_bor (vb_slot (pv 1))) va_nil) rfl (nodupB rfl) rfl (fun h => pe_call (ok__law_is_whole T) (hr.mono (by decide)) (by rfl) T.m__law_is_whole T.F__law_is_whole.kp T.b__law_is_whole .nil pass0 h)))))) (fun _ _ _ _ _ => (ve_fz (pv 1) rfl))))) va_nil))) (vb_ex (ve_callB b_len c_len (by rfl) T.z_len (by decide +kernel) (va_cons (va_bor (vb_slot (pv 0))) va_nil))) (nomark _))))) rfl (by intro i q h; cases h)))⟩
def b__law_is_run : Es := (sSeq (sIf (eOr (eNot (eTru (.ex (eFn [.brw] v__law_are_wholes [.bor (.slot 2)])))) (eOr (eTB (eBin dEq (.ex (eCall fLen [.bor (.slot 2)])) (.ex (eC (.int 0))))) (eTB (eBin dNe (.ex (eBin dIx (.slot 2) (.ex (eC (.int 0))))) (.slot 1))))) (sRet (eUp (eC (.bl false)))) sNil) (sSeq (sFor (eRng [.val (eC (.int 1)), .val (eCall fLen [.bor (.slot 2)])]) (.name 3) (sIf (eTB (eBin dNotIn (.ex (eTup [.val (eBin dIx (.slot 2) (.ex (eBin dSub (.slot 3) (.ex (eC (.int 1)))))), .val (eBin dIx (.slot 2) (.slot 3))])) (.slot 0))) (sRet (eUp (eC (.bl false)))) sNil)) (sRet (eUp (eC (.bl true))))))
def v__law_is_run : Fe := fun ds => noexn (fnEv [.brw, .brw, .brw] 4 b__law_is_run ds)
theorem ok__law_is_run (T : Top K mg) : FnOk P w K mg base CX0 5 T.a__law_is_run T.d__law_is_run ["moves", "start", "run"] (spFn K mg [.brw, .brw, .brw] .own v__law_is_run EX0) := by
  refine fn_ok0 (N := N__law_is_run) (As := List.range 4) T.F__law_is_run sc__law_is_run rfl (by decide) (fun cdv A outer s H vs E hr hl hio => ?_) (.inl rfl)
  have hp : PassesOwn (model P w) (A.deeper (envOfC "_law_is_run" (defScope s__law_is_run) s.heap.objs.size T.a__law_is_run cdv)) (envOfC "_law_is_run" (defScope s__law_is_run) s.heap.objs.size T.a__law_is_run cdv) (fun _ _ => False) := PassesOwn.never
  have hN := sc__law_is_run.nd
  have hu : (A.deeper (envOfC "_law_is_run" (defScope s__law_is_run) s.heap.objs.size T.a__law_is_run cdv)).units + 64 < cLine := by have := hr.un; omega
  have hu0 : (A.deeper (envOfC "_law_is_run" (defScope s__law_is_run) s.heap.objs.size T.a__law_is_run cdv)).units < cLine := by have := hr.un; omega
  have hu1 : (A.deeper (envOfC "_law_is_run" (defScope s__law_is_run) s.heap.objs.size T.a__law_is_run cdv)).units + 65 < cLine := by have := hr.un; omega
  match vs, hl with
  | [x0, x1, x2], _ =>
  exact ⟨[.fz, .fz, .fz, .fz], (by intro i q h; cases h), (vss_cons (vs_if (vt_bool (vw_or (vt_not (vt_tru (vb_ex (ve_call0 (fe := v__law_are_wholes) (pms := [.brw]) (.inl rfl) (va_cons (va_bor (vb_slot (pv 2))) va_nil) rfl (nodupB rfl) rfl (fun h => pe_call (ok__law_are_wholes T) (hr.mono (by decide)) (by rfl) T.m__law_are_wholes T.F__law_are_wholes.kp T.b__law_are_wholes .nil pass0 h))))) (vw_or (vt_cmp (op_eqA hu) f_eq (vb_ex (ve_callB b_len c_len (by rfl) T.z_len (by decide +kernel) (va_cons (va_bor (vb_slot (pv 2))) va_nil))) (vb_ex ve_int) (nomark _)) (vw_or1 (vt_cmp (op_neA hu) f_ne (vb_ex (ve_ix ix_seq f_ix (vb_slot (pv 2)) (vb_ex ve_int) (fun _ _ => rfl))) (vb_slot (pv 1)) (nomark _)))))) (vss_one (vs_ret (ve_up ve_bl) rfl (by intro i q h; cases h))) vss_nil) (vss_cons (vs_for hp rfl (vi_rng2 (by rfl) T.z_range (va_cons (va_val ve_int) (va_cons (va_val (ve_callB b_len c_len (by rfl) T.z_len (by decide +kernel) (va_cons (va_bor (vb_slot (pv 2))) va_nil))) va_nil))) (vg_name hN rfl (by first | exact .inl rfl | exact .inr rfl) rfl (memB rfl)) (vss_one (vs_if (vt_cmp (op_notInA hu1) f_notIn (vb_ex (ve_tup (va_cons (va_val (ve_ix ix_seq f_ix (vb_slot (pv 2)) (vb_ex (ve_bin op_sub f_sub (vb_slot (pv 3)) (vb_ex ve_int))) (fun _ _ => rfl))) (va_cons (va_val (ve_ix ix_seq f_ix (vb_slot (pv 2)) (vb_slot (pv 3)) (fun _ _ => rfl))) va_nil)) rfl)) (vb_slot (pv 0)) (by rfl)) (vss_one (vs_ret (ve_up ve_bl) rfl (by intro i q h; cases h))) vss_nil))) (vss_one (vs_ret (ve_up ve_bl) rfl (by intro i q h; cases h)))))⟩
def b__law_longest : Es := (sSeq (sSet 2 (eBin dMul (.ex (eLst [.val (eC (.int 0))])) (.slot 0))) (sSeq (sFor (eRng [.val (eC (.int 1)), .val (eBin dAdd (.slot 0) (.ex (eC (.int 1))))]) (.name 3) (sSeq (sFor (eRng [.val (eVar 0)]) (.name 4) (sIf (eTB (eBin dEq (.ex (eBin dIx (.slot 2) (.slot 4))) (.ex (eBin dSub (.slot 3) (.ex (eC (.int 1))))))) (sIf (eTB (eBin dGt (.ex (eCall fLen [.bor (.ex (eLC (eIt (eVar 1)) [5, 6] (.tup [(.name 5), (.name 6)]) (eAnd (eTB (eBin dEq (.slot 5) (.slot 4))) (eTB (eBin dGe (.ex (eBin dIx (.slot 2) (.slot 6))) (.ex (eBin dSub (.slot 3) (.ex (eC (.int 1)))))))) (eC (.int 1))))])) (.ex (eC (.int 0))))) (sSetIx 2 (eVar 4) (eVar 3)) sNil) sNil)) (sIf (eTB (eBin dNotIn (.slot 3) (.slot 2))) (sRet (eOut [] 2)) sNil))) (sRet (eOut [] 2))))
def v__law_longest : Fe := fun ds => noexn (fnEv [.fz, .brw] 7 b__law_longest ds)
theorem ok__law_longest (T : Top K mg) : FnOk P w K mg base CX0 3 T.a__law_longest T.d__law_longest ["n", "moves"] (spFn K mg [.fz, .brw] .own v__law_longest EX0) := by
  refine fn_ok0 (N := N__law_longest) (As := List.range 7) T.F__law_longest sc__law_longest rfl (by decide) (fun cdv A outer s H vs E hr hl hio => ?_) (.inl rfl)
  have hp : PassesOwn (model P w) (A.deeper (envOfC "_law_longest" (defScope s__law_longest) s.heap.objs.size T.a__law_longest cdv)) (envOfC "_law_longest" (defScope s__law_longest) s.heap.objs.size T.a__law_longest cdv) (fun _ _ => False) := PassesOwn.never
  have hN := sc__law_longest.nd
  have hu : (A.deeper (envOfC "_law_longest" (defScope s__law_longest) s.heap.objs.size T.a__law_longest cdv)).units + 64 < cLine := by have := hr.un; omega
  have hu0 : (A.deeper (envOfC "_law_longest" (defScope s__law_longest) s.heap.objs.size T.a__law_longest cdv)).units < cLine := by have := hr.un; omega
  have hu1 : (A.deeper (envOfC "_law_longest" (defScope s__law_longest) s.heap.objs.size T.a__law_longest cdv)).units + 65 < cLine := by have := hr.un; omega
  match vs, hl with
  | [x0, x1], _ =>
  exact ⟨[.fz, .fz, .fz, .fz, .fz, .fz, .fz], (by intro i q h; cases h), (vss_cons (vs_set hN rfl (by first | exact .inl rfl | exact .inr rfl) (ve_bin op_mulA f_mul (vb_ex (ve_lst (va_cons (va_val ve_int) va_nil) rfl)) (vb_slot (pv 0))) (.inr rfl) (ltB rfl) (memB rfl)) (vss_cons (vs_for hp rfl (vi_rng2 (by rfl) T.z_range (va_cons (va_val ve_int) (va_cons (va_val (ve_coe (ve_bin op_addA f_add (vb_slot (pv 0)) (vb_ex ve_int)))) va_nil))) (vg_name hN rfl (by first | exact .inl rfl | exact .inr rfl) rfl (memB rfl)) (vss_cons (vs_for hp rfl (vi_rng1 (by rfl) T.z_range (va_cons (va_val (ve_fz (pv 0) rfl)) va_nil)) (vg_name hN rfl (by first | exact .inl rfl | exact .inr rfl) rfl (memB rfl)) (vss_one (vs_if (vt_cmp (op_eqA hu) f_eq (vb_ex (ve_ix ix_seq f_ix (vb_slot (pv 2)) (vb_slot (pv 4)) (fun _ _ => rfl))) (vb_ex (ve_bin op_sub f_sub (vb_slot (pv 3)) (vb_ex ve_int))) (nomark _)) (vss_one (vs_if (vt_cmp op_gtA f_gt (vb_ex (ve_callB b_len c_len (by rfl) T.z_len (by decide +kernel) (va_cons (va_bor (vb_ex (ve_lc rfl hN (own := [("i", 5), ("j", 6)]) (vi_any (vb_brw (pv 1) rfl)) (blkOk_by (by kernel_rfl)) (allFz_ok rfl) (fun _ _ _ _ _ => (vg_tup rfl (vgs_cons (vg_name hN rfl (by first | exact .inl rfl | exact .inr rfl) rfl (memB rfl)) (vgs_cons (vg_name hN rfl (by first | exact .inl rfl | exact .inr rfl) rfl (memB rfl)) vgs_nil)))) (fun _ _ _ _ _ => (vts_one (vt_bool (vw_and (vt_cmp (op_eqA hu) f_eq (vb_slot (pv 5)) (vb_slot (pv 4)) (nomark _)) (vw_and1 (vt_cmp op_geA f_ge (vb_ex (ve_ix ix_seq f_ix (vb_slot (pv 2)) (vb_slot (pv 6)) (fun _ _ => rfl))) (vb_ex (ve_bin op_sub f_sub (vb_slot (pv 3)) (vb_ex ve_int))) (nomark _))))))) (fun _ _ _ _ _ => ve_int)))) va_nil))) (vb_ex ve_int) (nomark _)) (vss_one (vs_setIx (ve_fz (pv 3) rfl) (pg_sub (pv 2) (ve_fz (pv 4) rfl) set_list) rfl rfl)) vss_nil)) vss_nil))) (vss_one (vs_if (vt_cmp (op_notInA hu1) f_notIn (vb_slot (pv 3)) (vb_slot (pv 2)) (by rfl)) (vss_one (vs_retOwn (js := []) (pv 2) rfl rfl (by intro i q h; cases h) (by intro j q h; cases h))) vss_nil)))) (vss_one (vs_retOwn (js := []) (pv 2) rfl rfl (by intro i q h; cases h) (by intro j q h; cases h)))))⟩
def b__law_reached : Es := (sSeq (sSet 3 (eLst [.val (eVar 2)])) (sSeq (sFor (eRng [.val (eVar 0)]) (.name 4) (sFor (eIt (eVar 1)) (.tup [(.name 5), (.name 6)]) (sIf (eAnd (eTB (eBin dIn (.slot 5) (.slot 3))) (eTB (eBin dNotIn (.slot 6) (.slot 3)))) (sExpr (eMut 3 mAppend [.val (eVar 6)])) sNil))) (sRet (eOut [] 3))))
def v__law_reached : Fe := fun ds => noexn (fnEv [.fz, .brw, .fz] 7 b__law_reached ds)
theorem ok__law_reached (T : Top K mg) : FnOk P w K mg base CX0 3 T.a__law_reached T.d__law_reached ["n", "moves", "start"] (spFn K mg [.fz, .brw, .fz] .own v__law_reached EX0) := by
  refine fn_ok0 (N := N__law_reached) (As := List.range 7) T.F__law_reached sc__law_reached rfl (by decide) (fun cdv A outer s H vs E hr hl hio => ?_) (.inl rfl)
  have hp : PassesOwn (model P w) (A.deeper (envOfC "_law_reached" (defScope s__law_reached) s.heap.objs.size T.a__law_reached cdv)) (envOfC "_law_reached" (defScope s__law_reached) s.heap.objs.size T.a__law_reached cdv) (fun _ _ => False) := PassesOwn.never
  have hN := sc__law_reached.nd
  have hu : (A.deeper (envOfC "_law_reached" (defScope s__law_reached) s.heap.objs.size T.a__law_reached cdv)).units + 64 < cLine := by have := hr.un; omega
  have hu0 : (A.deeper (envOfC "_law_reached" (defScope s__law_reached) s.heap.objs.size T.a__law_reached cdv)).units < cLine := by have := hr.un; omega
  have hu1 : (A.deeper (envOfC "_law_reached" (defScope s__law_reached) s.heap.objs.size T.a__law_reached cdv)).units + 65 < cLine := by have := hr.un; omega
  match vs, hl with
  | [x0, x1, x2], _ =>
  exact ⟨[.fz, .fz, .fz, .fz, .fz, .fz, .fz], (by intro i q h; cases h), (vss_cons (vs_set hN rfl (by first | exact .inl rfl | exact .inr rfl) (ve_lst (va_cons (va_val (ve_fz (pv 2) rfl)) va_nil) rfl) (.inr rfl) (ltB rfl) (memB rfl)) (vss_cons (vs_for hp rfl (vi_rng1 (by rfl) T.z_range (va_cons (va_val (ve_fz (pv 0) rfl)) va_nil)) (vg_name hN rfl (by first | exact .inl rfl | exact .inr rfl) rfl (memB rfl)) (vss_one (vs_for hp rfl (vi_any (vb_brw (pv 1) rfl)) (vg_tup rfl (vgs_cons (vg_name hN rfl (by first | exact .inl rfl | exact .inr rfl) rfl (memB rfl)) (vgs_cons (vg_name hN rfl (by first | exact .inl rfl | exact .inr rfl) rfl (memB rfl)) vgs_nil))) (vss_one (vs_if (vt_bool (vw_and (vt_cmp (op_inA hu1) f_in (vb_slot (pv 5)) (vb_slot (pv 3)) (by rfl)) (vw_and1 (vt_cmp (op_notInA hu1) f_notIn (vb_slot (pv 6)) (vb_slot (pv 3)) (by rfl))))) (vss_one (vs_expr (ve_mut m_append PySem.F.slot_list_append PySem.F.type_list_append mt_append (pv 3) (va_cons (va_val (ve_fz (pv 6) rfl)) va_nil) rfl rfl rfl))) vss_nil))))) (vss_one (vs_retOwn (js := []) (pv 3) rfl rfl (by intro i q h; cases h) (by intro j q h; cases h)))))⟩
def b__law_is_right : Es := (sSeq (sIf (eOr (eNot (eTru (.ex (eCall (fIsi "tuple") [.bor (.slot 3), .val eTy])))) (eTB (eBin dLt (.ex (eCall fLen [.bor (.slot 3)])) (.ex (eC (.int 2)))))) (sRet (eUp (eC (.bl false)))) sNil) (sSeq (sSet 4 (eFn [.fz, .brw] v__law_longest [.val (eVar 0), .bor (.slot 1)])) (sSeq (sSet 5 (eFn [.fz, .brw, .fz] v__law_reached [.val (eVar 0), .bor (.slot 1), .val (eVar 2)])) (sSeq (sSet 6 (eBin dMul (.ex (eLst [.val (eNeg (eC (.int 1)))])) (.slot 0))) (sSeq (sFor (eIt (eVar 5)) (.name 7) (sSetIx 6 (eVar 7) (eBin dIx (.slot 4) (.slot 7)))) (sSeq (sIf (eTB (eBin dLt (.ex (eBin dIx (.slot 4) (.slot 2))) (.slot 0))) (sSeq (sIf (eOr (eTB (eBin dNe (.ex (eCall fLen [.bor (.slot 3)])) (.ex (eC (.int 2))))) (eOr (eTB (eBin dNe (.ex (eBin dIx (.slot 3) (.ex (eC (.int 0))))) (.ex (eC (.str [101, 110, 100, 115]))))) (eOr (eNot (eTru (.ex (eFn [.brw] v__law_are_wholes [.bor (.ex (eBin dIx (.slot 3) (.ex (eC (.int 1)))))])))) (eTB (eBin dNe (.ex (eBin dIx (.slot 3) (.ex (eC (.int 1))))) (.slot 6)))))) (sRet (eUp (eC (.bl false)))) sNil) (sRet (eFn [.brw, .brw] v__law_same [.bor (.ex (eFn [.brw, .brw, .brw, .brw] v_shows_ends [.bor (.slot 0), .bor (.slot 1), .bor (.slot 2), .bor (.ex (eBin dIx (.slot 3) (.ex (eC (.int 1)))))])), .bor (.ex (eC (.bl true)))]))) sNil) (sSeq (sIf (eOr (eTB (eBin dNe (.ex (eCall fLen [.bor (.slot 3)])) (.ex (eC (.int 3))))) (eOr (eTB (eBin dNe (.ex (eBin dIx (.slot 3) (.ex (eC (.int 0))))) (.ex (eC (.str [114, 111, 117, 110, 100]))))) (eNot (eTru (.ex (eFn [.brw, .brw, .brw] v__law_is_run [.bor (.slot 1), .bor (.slot 2), .bor (.ex (eBin dIx (.slot 3) (.ex (eC (.int 1)))))])))))) (sRet (eUp (eC (.bl false)))) sNil) (sSeq (sIf (eOr (eNot (eTru (.ex (eFn [.brw, .brw, .brw] v__law_is_run [.bor (.slot 1), .bor (.ex (eBin dIx (.ex (eBin dIx (.slot 3) (.ex (eC (.int 1))))) (.ex (eNeg (eC (.int 1)))))), .bor (.ex (eBin dIx (.slot 3) (.ex (eC (.int 2)))))])))) (eOr (eTB (eBin dLt (.ex (eCall fLen [.bor (.ex (eBin dIx (.slot 3) (.ex (eC (.int 2)))))])) (.ex (eC (.int 2))))) (eTB (eBin dNe (.ex (eBin dIx (.ex (eBin dIx (.slot 3) (.ex (eC (.int 2))))) (.ex (eNeg (eC (.int 1)))))) (.ex (eBin dIx (.ex (eBin dIx (.slot 3) (.ex (eC (.int 1))))) (.ex (eNeg (eC (.int 1)))))))))) (sRet (eUp (eC (.bl false)))) sNil) (sSeq (sIf (eNot (eTru (.ex (eFn [.brw, .brw] v__law_same [.bor (.ex (eFn [.brw, .brw, .brw, .brw, .brw] v_shows_round [.bor (.slot 0), .bor (.slot 1), .bor (.slot 2), .bor (.ex (eBin dIx (.slot 3) (.ex (eC (.int 1))))), .bor (.ex (eBin dIx (.slot 3) (.ex (eC (.int 2)))))])), .bor (.ex (eC (.bl true)))])))) (sRet (eUp (eC (.bl false)))) sNil) (sSeq (sFor (eIt (eLst [.val (eVar 6), .val (eVar 4), .val (eBin dMul (.ex (eLst [.val (eC (.int 0))])) (.slot 0)), .val (eLC (eRng [.val (eVar 0)]) [7] (.name 7) tYesE (eBin dSub (.slot 0) (.slot 7))), .val (eLC (eRng [.val (eVar 0)]) [7] (.name 7) tYesE (eVar 7))])) (.name 8) (sIf (eNot (eTru (.ex (eFn [.brw, .brw] v__law_same [.bor (.ex (eFn [.brw, .brw, .brw, .brw] v_shows_ends [.bor (.slot 0), .bor (.slot 1), .bor (.slot 2), .bor (.slot 8)])), .bor (.ex (eC (.bl false)))])))) (sRet (eUp (eC (.bl false)))) sNil)) (sRet (eUp (eC (.bl true))))))))))))))
def v__law_is_right : Fe := fun ds => noexn (fnEv [.fz, .brw, .fz, .brw] 9 b__law_is_right ds)
theorem ok__law_is_right (T : Top K mg) : FnOk P w K mg base CX0 7 T.a__law_is_right T.d__law_is_right ["n", "moves", "start", "told"] (spFn K mg [.fz, .brw, .fz, .brw] .own v__law_is_right EX0) := by
  refine fn_ok0 (N := N__law_is_right) (As := List.range 9) T.F__law_is_right sc__law_is_right rfl (by decide) (fun cdv A outer s H vs E hr hl hio => ?_) (.inl rfl)
  have hp : PassesOwn (model P w) (A.deeper (envOfC "_law_is_right" (defScope s__law_is_right) s.heap.objs.size T.a__law_is_right cdv)) (envOfC "_law_is_right" (defScope s__law_is_right) s.heap.objs.size T.a__law_is_right cdv) (fun _ _ => False) := PassesOwn.never
  have hN := sc__law_is_right.nd
  have hu : (A.deeper (envOfC "_law_is_right" (defScope s__law_is_right) s.heap.objs.size T.a__law_is_right cdv)).units + 64 < cLine := by have := hr.un; omega
  have hu0 : (A.deeper (envOfC "_law_is_right" (defScope s__law_is_right) s.heap.objs.size T.a__law_is_right cdv)).units < cLine := by have := hr.un; omega
  have hu1 : (A.deeper (envOfC "_law_is_right" (defScope s__law_is_right) s.heap.objs.size T.a__law_is_right cdv)).units + 65 < cLine := by have := hr.un; omega
  match vs, hl with
  | [x0, x1, x2, x3], _ =>
  exact ⟨[.fz, .fz, .fz, .fz, .fz, .fz, .fz, .fz, .fz], (by intro i q h; cases h), (vss_cons (vs_if (vt_bool (vw_or (vt_not (vt_tru (vb_ex (ve_isi (T := "tuple") (by decide +kernel) (.ty _) (vb_slot (pv 3)) (fun h => pe_callB call_isi (by rfl) T.z_isinstance (by decide +kernel) (pa_cons h (pa_cons (pe_bltn (v := .ty "tuple") (by rfl) T.z_tuple (by decide +kernel) rfl) pa_nil))))))) (vw_or1 (vt_cmp (op_ltA hu0) f_lt (vb_ex (ve_callB b_len c_len (by rfl) T.z_len (by decide +kernel) (va_cons (va_bor (vb_slot (pv 3))) va_nil))) (vb_ex ve_int) (nomark _))))) (vss_one (vs_ret (ve_up ve_bl) rfl (by intro i q h; cases h))) vss_nil) (vss_cons (vs_set hN rfl (by first | exact .inl rfl | exact .inr rfl) (ve_coe (ve_call0 (fe := v__law_longest) (pms := [.fz, .brw]) (.inl rfl) (va_cons (va_val (ve_fz (pv 0) rfl)) (va_cons (va_bor (vb_slot (pv 1))) va_nil)) rfl (nodupB rfl) rfl (fun h => pe_call (ok__law_longest T) (hr.mono (by decide)) (by rfl) T.m__law_longest T.F__law_longest.kp T.b__law_longest .nil pass0 h))) (.inl rfl) (ltB rfl) (memB rfl)) (vss_cons (vs_set hN rfl (by first | exact .inl rfl | exact .inr rfl) (ve_coe (ve_call0 (fe := v__law_reached) (pms := [.fz, .brw, .fz]) (.inl rfl) (va_cons (va_val (ve_fz (pv 0) rfl)) (va_cons (va_bor (vb_slot (pv 1))) (va_cons (va_val (ve_fz (pv 2) rfl)) va_nil))) rfl (nodupB rfl) rfl (fun h => pe_call (ok__law_reached T) (hr.mono (by decide)) (by rfl) T.m__law_reached T.F__law_reached.kp T.b__law_reached .nil pass0 h))) (.inl rfl) (ltB rfl) (memB rfl)) (vss_cons (vs_set hN rfl (by first | exact .inl rfl | exact .inr rfl) (ve_bin op_mulA f_mul (vb_ex (ve_lst (va_cons (va_val (ve_neg ve_int)) va_nil) rfl)) (vb_slot (pv 0))) (.inr rfl) (ltB rfl) (memB rfl)) (vss_cons (vs_for hp rfl (vi_any (vb_ex (ve_fz (pv 5) rfl))) (vg_name hN rfl (by first | exact .inl rfl | exact .inr rfl) rfl (memB rfl)) (vss_one (vs_setIx (ve_ix ix_seq f_ix (vb_slot (pv 4)) (vb_slot (pv 7)) (fun _ _ => rfl)) (pg_sub (pv 6) (ve_fz (pv 7) rfl) set_list) rfl rfl))) (vss_cons (vs_if (vt_cmp (op_ltA hu0) f_lt (vb_ex (ve_ix ix_seq f_ix (vb_slot (pv 4)) (vb_slot (pv 2)) (fun _ _ => rfl))) (vb_slot (pv 0)) (nomark _)) (vss_cons (vs_if (vt_bool (vw_or (vt_cmp (op_neA hu) f_ne (vb_ex (ve_callB b_len c_len (by rfl) T.z_len (by decide +kernel) (va_cons (va_bor (vb_slot (pv 3))) va_nil))) (vb_ex ve_int) (nomark _)) (vw_or (vt_cmp (op_neA hu) f_ne (vb_ex (ve_ix ix_seq f_ix (vb_slot (pv 3)) (vb_ex ve_int) (fun _ _ => rfl))) (vb_ex (ve_str (l := [101, 110, 100, 115]) (by decide +kernel))) (nomark _)) (vw_or (vt_not (vt_tru (vb_ex (ve_call0 (fe := v__law_are_wholes) (pms := [.brw]) (.inl rfl) (va_cons (va_bor (vb_ex (ve_ix ix_seq f_ix (vb_slot (pv 3)) (vb_ex ve_int) (fun _ _ => rfl)))) va_nil) rfl (nodupB rfl) rfl (fun h => pe_call (ok__law_are_wholes T) (hr.mono (by decide)) (by rfl) T.m__law_are_wholes T.F__law_are_wholes.kp T.b__law_are_wholes .nil pass0 h))))) (vw_or1 (vt_cmp (op_neA hu) f_ne (vb_ex (ve_ix ix_seq f_ix (vb_slot (pv 3)) (vb_ex ve_int) (fun _ _ => rfl))) (vb_slot (pv 6)) (nomark _))))))) (vss_one (vs_ret (ve_up ve_bl) rfl (by intro i q h; cases h))) vss_nil) (vss_one (vs_ret (ve_call0 (fe := v__law_same) (pms := [.brw, .brw]) (.inl rfl) (va_cons (va_bor (vb_ex (ve_call0 (fe := v_shows_ends) (pms := [.brw, .brw, .brw, .brw]) (.inl rfl) (va_cons (va_bor (vb_slot (pv 0))) (va_cons (va_bor (vb_slot (pv 1))) (va_cons (va_bor (vb_slot (pv 2))) (va_cons (va_bor (vb_ex (ve_ix ix_seq f_ix (vb_slot (pv 3)) (vb_ex ve_int) (fun _ _ => rfl)))) va_nil)))) rfl (nodupB rfl) rfl (fun h => pe_call (ok_shows_ends T) (hr.mono (by decide)) (by rfl) T.m_shows_ends T.F_shows_ends.kp T.b_shows_ends .nil pass0 h)))) (va_cons (va_bor (vb_ex ve_bl)) va_nil)) rfl (nodupB rfl) rfl (fun h => pe_call (ok__law_same T) (hr.mono (by decide)) (by rfl) T.m__law_same T.F__law_same.kp T.b__law_same .nil pass0 h)) rfl (by intro i q h; cases h)))) vss_nil) (vss_cons (vs_if (vt_bool (vw_or (vt_cmp (op_neA hu) f_ne (vb_ex (ve_callB b_len c_len (by rfl) T.z_len (by decide +kernel) (va_cons (va_bor (vb_slot (pv 3))) va_nil))) (vb_ex ve_int) (nomark _)) (vw_or (vt_cmp (op_neA hu) f_ne (vb_ex (ve_ix ix_seq f_ix (vb_slot (pv 3)) (vb_ex ve_int) (fun _ _ => rfl))) (vb_ex (ve_str (l := [114, 111, 117, 110, 100]) (by decide +kernel))) (nomark _)) (vw_or1 (vt_not (vt_tru (vb_ex (ve_call0 (fe := v__law_is_run) (pms := [.brw, .brw, .brw]) (.inl rfl) (va_cons (va_bor (vb_slot (pv 1))) (va_cons (va_bor (vb_slot (pv 2))) (va_cons (va_bor (vb_ex (ve_ix ix_seq f_ix (vb_slot (pv 3)) (vb_ex ve_int) (fun _ _ => rfl)))) va_nil))) rfl (nodupB rfl) rfl (fun h => pe_call (ok__law_is_run T) (hr.mono (by decide)) (by rfl) T.m__law_is_run T.F__law_is_run.kp T.b__law_is_run .nil pass0 h))))))))) (vss_one (vs_ret (ve_up ve_bl) rfl (by intro i q h; cases h))) vss_nil) (vss_cons (vs_if (vt_bool (vw_or (vt_not (vt_tru (vb_ex (ve_call0 (fe := v__law_is_run) (pms := [.brw, .brw, .brw]) (.inl rfl) (va_cons (va_bor (vb_slot (pv 1))) (va_cons (va_bor (vb_ex (ve_ix ix_seq f_ix (vb_ex (ve_ix ix_seq f_ix (vb_slot (pv 3)) (vb_ex ve_int) (fun _ _ => rfl))) (vb_ex (ve_neg ve_int)) (fun _ _ => rfl)))) (va_cons (va_bor (vb_ex (ve_ix ix_seq f_ix (vb_slot (pv 3)) (vb_ex ve_int) (fun _ _ => rfl)))) va_nil))) rfl (nodupB rfl) rfl (fun h => pe_call (ok__law_is_run T) (hr.mono (by decide)) (by rfl) T.m__law_is_run T.F__law_is_run.kp T.b__law_is_run .nil pass0 h))))) (vw_or (vt_cmp (op_ltA hu0) f_lt (vb_ex (ve_callB b_len c_len (by rfl) T.z_len (by decide +kernel) (va_cons (va_bor (vb_ex (ve_ix ix_seq f_ix (vb_slot (pv 3)) (vb_ex ve_int) (fun _ _ => rfl)))) va_nil))) (vb_ex ve_int) (nomark _)) (vw_or1 (vt_cmp (op_neA hu) f_ne (vb_ex (ve_ix ix_seq f_ix (vb_ex (ve_ix ix_seq f_ix (vb_slot (pv 3)) (vb_ex ve_int) (fun _ _ => rfl))) (vb_ex (ve_neg ve_int)) (fun _ _ => rfl))) (vb_ex (ve_ix ix_seq f_ix (vb_ex (ve_ix ix_seq f_ix (vb_slot (pv 3)) (vb_ex ve_int) (fun _ _ => rfl))) (vb_ex (ve_neg ve_int)) (fun _ _ => rfl))) (nomark _)))))) (vss_one (vs_ret (ve_up ve_bl) rfl (by intro i q h; cases h))) vss_nil) (vss_cons (vs_if (vt_not (vt_tru (vb_ex (ve_call0 (fe := v__law_same) (pms := [.brw, .brw]) (.inl rfl) (va_cons (va_bor (vb_ex (ve_call0 (fe := v_shows_round) (pms := [.brw, .brw, .brw, .brw, .brw]) (.inl rfl) (va_cons (va_bor (vb_slot (pv 0))) (va_cons (va_bor (vb_slot (pv 1))) (va_cons (va_bor (vb_slot (pv 2))) (va_cons (va_bor (vb_ex (ve_ix ix_seq f_ix (vb_slot (pv 3)) (vb_ex ve_int) (fun _ _ => rfl)))) (va_cons (va_bor (vb_ex (ve_ix ix_seq f_ix (vb_slot (pv 3)) (vb_ex ve_int) (fun _ _ => rfl)))) va_nil))))) rfl (nodupB rfl) rfl (fun h => pe_call (ok_shows_round T) (hr.mono (by decide)) (by rfl) T.m_shows_round T.F_shows_round.kp T.b_shows_round .nil pass0 h)))) (va_cons (va_bor (vb_ex ve_bl)) va_nil)) rfl (nodupB rfl) rfl (fun h => pe_call (ok__law_same T) (hr.mono (by decide)) (by rfl) T.m__law_same T.F__law_same.kp T.b__law_same .nil pass0 h))))) (vss_one (vs_ret (ve_up ve_bl) rfl (by intro i q h; cases h))) vss_nil) (vss_cons (vs_for hp rfl (vi_any (vb_ex (ve_lst (va_cons (va_val (ve_own (pv 6) rfl)) (va_cons (va_val (ve_fz (pv 4) rfl)) (va_cons (va_val (ve_coe (ve_bin op_mulA f_mul (vb_ex (ve_lst (va_cons (va_val ve_int) va_nil) rfl)) (vb_slot (pv 0))))) (va_cons (va_val (ve_coe (ve_lc rfl hN (own := [("state", 7)]) (vi_rng1 (by rfl) T.z_range (va_cons (va_val (ve_fz (pv 0) rfl)) va_nil)) (blkOk_by (by kernel_rfl)) (allFz_ok rfl) (fun _ _ _ _ _ => (vg_name hN rfl (by first | exact .inl rfl | exact .inr rfl) rfl (memB rfl))) (fun _ _ _ _ _ => vts_nil) (fun _ _ _ _ _ => (ve_bin op_sub f_sub (vb_slot (pv 0)) (vb_slot (pv 7))))))) (va_cons (va_val (ve_coe (ve_lc rfl hN (own := [("state", 7)]) (vi_rng1 (by rfl) T.z_range (va_cons (va_val (ve_fz (pv 0) rfl)) va_nil)) (blkOk_by (by kernel_rfl)) (allFz_ok rfl) (fun _ _ _ _ _ => (vg_name hN rfl (by first | exact .inl rfl | exact .inr rfl) rfl (memB rfl))) (fun _ _ _ _ _ => vts_nil) (fun _ _ _ _ _ => (ve_fz (pv 7) rfl))))) va_nil))))) rfl))) (vg_name hN rfl (by first | exact .inl rfl | exact .inr rfl) rfl (memB rfl)) (vss_one (vs_if (vt_not (vt_tru (vb_ex (ve_call0 (fe := v__law_same) (pms := [.brw, .brw]) (.inl rfl) (va_cons (va_bor (vb_ex (ve_call0 (fe := v_shows_ends) (pms := [.brw, .brw, .brw, .brw]) (.inl rfl) (va_cons (va_bor (vb_slot (pv 0))) (va_cons (va_bor (vb_slot (pv 1))) (va_cons (va_bor (vb_slot (pv 2))) (va_cons (va_bor (vb_slot (pv 8))) va_nil)))) rfl (nodupB rfl) rfl (fun h => pe_call (ok_shows_ends T) (hr.mono (by decide)) (by rfl) T.m_shows_ends T.F_shows_ends.kp T.b_shows_ends .nil pass0 h)))) (va_cons (va_bor (vb_ex ve_bl)) va_nil)) rfl (nodupB rfl) rfl (fun h => pe_call (ok__law_same T) (hr.mono (by decide)) (by rfl) T.m__law_same T.F__law_same.kp T.b__law_same .nil pass0 h))))) (vss_one (vs_ret (ve_up ve_bl) rfl (by intro i q h; cases h))) vss_nil))) (vss_one (vs_ret (ve_up ve_bl) rfl (by intro i q h; cases h)))))))))))))⟩
def b__law_asks : Es := (sSeq (sSet 3 (eCall fList [.bor (.slot 1)])) (sSeq (sFr 4 [5] [0, 2, 3] [5] (eFn [.brw, .brw, .fz] v_ending [.bor (.slot 0), .bor (.slot 3), .val (eVarB 2)]) (sSeq (sIf (eOr (eTB (eBin dNe (.slot 3) (.slot 1))) (eNot (eTru (.ex (eFn [.fz, .brw, .fz, .brw] v__law_is_right [.val (eVar 0), .bor (.slot 1), .val (eVar 2), .bor (.slot 4)]))))) (sRet (eC (.bl false))) sNil) (sSet 5 (eBin dIx (.slot 4) (.ex (eC (.int 0)))))) 1 2 [2]) (sSeq (sSet 6 (eFn [.brw, .brw, .fz] v_ending [.bor (.slot 0), .bor (.slot 3), .val (eVar 2)])) (sRet (eAndV (eFn [.fz, .brw, .fz, .brw] v__law_is_right [.val (eVar 0), .bor (.slot 1), .val (eVar 2), .bor (.slot 6)]) (eAndV (eBin dEq (.ex (eBin dIx (.slot 6) (.ex (eC (.int 0))))) (.slot 5)) (eBin dEq (.slot 3) (.slot 1))))))))
def v__law_asks : Fe := fun ds => noexn (fnEv [.fz, .brw, .fz] 7 b__law_asks ds)
theorem ok__law_asks (T : Top K mg) : FnOk P w K mg base CX0 8 T.a__law_asks T.d__law_asks ["n", "moves", "start"] (spFn K mg [.fz, .brw, .fz] .fz v__law_asks EX0) := by
  refine fn_ok0 (N := N__law_asks) (As := List.range 7) T.F__law_asks sc__law_asks rfl (by decide) (fun cdv A outer s H vs E hr hl hio => ?_) (.inr rfl)
  have hp : PassesOwn (model P w) (A.deeper (envOfC "_law_asks" (defScope s__law_asks) s.heap.objs.size T.a__law_asks cdv)) (envOfC "_law_asks" (defScope s__law_asks) s.heap.objs.size T.a__law_asks cdv) (fun _ _ => False) := PassesOwn.never
  have hN := sc__law_asks.nd
  have hu : (A.deeper (envOfC "_law_asks" (defScope s__law_asks) s.heap.objs.size T.a__law_asks cdv)).units + 64 < cLine := by have := hr.un; omega
  have hu0 : (A.deeper (envOfC "_law_asks" (defScope s__law_asks) s.heap.objs.size T.a__law_asks cdv)).units < cLine := by have := hr.un; omega
  have hu1 : (A.deeper (envOfC "_law_asks" (defScope s__law_asks) s.heap.objs.size T.a__law_asks cdv)).units + 65 < cLine := by have := hr.un; omega
  match vs, hl with
  | [x0, x1, x2], _ =>
  exact ⟨[.fz, .fz, .fz, .fz, .fz, .fz, .fz], (by intro i q h; cases h), (vss_cons (vs_set hN rfl (by first | exact .inl rfl | exact .inr rfl) (ve_coe (ve_callTy call_list_of c_list (by rfl) T.z_list (by decide +kernel) (va_cons (va_bor (vb_slot (pv 1))) va_nil))) (.inl rfl) (ltB rfl) (memB rfl)) (vss_parts 5 (vss_freshN (i := 4) (k := 1) (n := 2) (As := [5]) (Ls := [0, 2, 3]) (Ks := [5]) (Js := [2]) 2 hN rfl (by first | exact .inl rfl | exact .inr rfl) (ve_coe (ve_call0 (fe := v_ending) (pms := [.brw, .brw, .fz]) (.inl rfl) (va_cons (va_bor (vb_slot (pv 0))) (va_cons (va_bor (vb_slot (pv 3))) (va_cons (va_val (ve_brw (pv 2) rfl)) va_nil))) rfl (nodupB rfl) rfl (fun h => pe_call (ok_ending T) (hr.mono (by decide)) (by rfl) T.m_ending T.F_ending.kp T.b_ending .nil pass0 h))) (vss_cons (vs_if (vt_bool (vw_or (vt_cmp (op_neA hu) f_ne (vb_slot (pv 3)) (vb_slot (pv 1)) (nomark _)) (vw_or1 (vt_not (vt_tru (vb_ex (ve_call0 (fe := v__law_is_right) (pms := [.fz, .brw, .fz, .brw]) (.inl rfl) (va_cons (va_val (ve_fz (pv 0) rfl)) (va_cons (va_bor (vb_slot (pv 1))) (va_cons (va_val (ve_fz (pv 2) rfl)) (va_cons (va_bor (vb_slot (pv 4))) va_nil)))) rfl (nodupB rfl) rfl (fun h => pe_call (ok__law_is_right T) (hr.mono (by decide)) (by rfl) T.m__law_is_right T.F__law_is_right.kp T.b__law_is_right .nil pass0 h)))))))) (vss_one (vs_ret ve_bl rfl (by intro i q h; cases h))) vss_nil) (vss_one (vs_set hN rfl (by first | exact .inl rfl | exact .inr rfl) (ve_ix ix_seq f_ix (vb_slot (pv 4)) (vb_ex ve_int) (fun _ _ => rfl)) (.inl rfl) (ltB rfl) (memB rfl)))) (pss_apS (ps_ap1 (pv 4) (pv 2) (calm_var (by decide)) pe_int (fun _ _ => rfl)) (pss_ap1 (ps_ap1 (pv 4) (pe_un un_neg pe_int) calm_neg pe_int (fun _ _ => rfl)))) rfl rfl rfl (by intro i q h; cases h)) (vss_cons (vs_set hN rfl (by first | exact .inl rfl | exact .inr rfl) (ve_coe (ve_call0 (fe := v_ending) (pms := [.brw, .brw, .fz]) (.inl rfl) (va_cons (va_bor (vb_slot (pv 0))) (va_cons (va_bor (vb_slot (pv 3))) (va_cons (va_val (ve_fz (pv 2) rfl)) va_nil))) rfl (nodupB rfl) rfl (fun h => pe_call (ok_ending T) (hr.mono (by decide)) (by rfl) T.m_ending T.F_ending.kp T.b_ending .nil pass0 h))) (.inl rfl) (ltB rfl) (memB rfl)) (vss_one (vs_ret (ve_and (ve_coe (ve_call0 (fe := v__law_is_right) (pms := [.fz, .brw, .fz, .brw]) (.inl rfl) (va_cons (va_val (ve_fz (pv 0) rfl)) (va_cons (va_bor (vb_slot (pv 1))) (va_cons (va_val (ve_fz (pv 2) rfl)) (va_cons (va_bor (vb_slot (pv 6))) va_nil)))) rfl (nodupB rfl) rfl (fun h => pe_call (ok__law_is_right T) (hr.mono (by decide)) (by rfl) T.m__law_is_right T.F__law_is_right.kp T.b__law_is_right .nil pass0 h))) (ve_and (ve_cmp (op_eqA hu) f_eq (vb_ex (ve_ix ix_seq f_ix (vb_slot (pv 6)) (vb_ex ve_int) (fun _ _ => rfl))) (vb_slot (pv 5)) (nomark _)) (ve_one (ve_cmp (op_eqA hu) f_eq (vb_slot (pv 3)) (vb_slot (pv 1)) (nomark _))))) rfl (by intro i q h; cases h))))))⟩
def b_law : Es := (sSeq (sSet 1 (eFn [.brw] v__law_feed [.bor (.slot 0)])) (sSeq (sFor (eRng [.val (eC (.int 2))]) (.name 2) (sSeq (sAsg (.tup [(.name 3), (.name 4), (.name 5)]) (eFn [.io] v__law_course [.io 1])) (sSeq (sSet 6 (eFn [.io, .brw] v__law_draw [.io 1, .bor (.slot 3)])) (sSeq (sSet 7 (eFn [.io, .fz] v__law_names [.io 1, .val (eVar 3)])) (sSeq (sSet 8 (eLC (eRng [.val (eBin dSub (.slot 3) (.ex (eC (.int 1))))]) [14] (.name 14) tYesE (eTup [.val (eBin dIx (.slot 7) (.slot 14)), .val (eBin dIx (.slot 7) (.ex (eBin dAdd (.slot 14) (.ex (eC (.int 1))))))]))) (sSeq (sSet 9 (eLC (eIt (eVar 5)) [15, 16] (.tup [(.name 15), (.name 16)]) (eTB (eBin dLt (.ex (eBin dIx (.slot 7) (.slot 15))) (.ex (eBin dIx (.slot 7) (.slot 16))))) (eTup [.val (eVar 15), .val (eVar 16)]))) (sSeq (sSet 10 (eFn [.io, .brw] v__law_draw [.io 1, .bor (.slot 3)])) (sSeq (sSet 11 (eTup [.val (eBin dIx (.slot 7) (.ex (eBin dSub (.slot 3) (.ex (eC (.int 1)))))), .val (eBin dIx (.slot 7) (.slot 10))])) (sSeq (sFor (eIt (eLst [.val (eVar 5), .val (eVar 9), .val (eVar 8), .val (eBin dAdd (.slot 8) (.ex (eLst [.val (eVar 11)]))), .val (eBin dAdd (.slot 9) (.ex (eLst [.val (eVar 11)]))), .val (eBin dAdd (.ex (eSl (.slot 5) (some (eC (.int 1))) none)) (.ex (eSl (.slot 5) none (some (eC (.int 1)))))), .val (eLst [])])) (.name 12) (sIf (eNot (eTru (.ex (eFn [.fz, .brw, .fz] v__law_asks [.val (eVar 3), .bor (.ex (eSl (.slot 12) none (some (eC (.int 60))))), .val (eVar 6)])))) (sRet (eC (.bl false))) sNil)) (sSeq (sIf (eOr (eNot (eTru (.ex (eFn [.fz, .brw, .fz] v__law_asks [.val (eVar 3), .bor (.slot 8), .val (eBin dIx (.slot 7) (.ex (eC (.int 0))))])))) (eNot (eTru (.ex (eFn [.fz, .brw, .fz] v__law_asks [.val (eVar 3), .bor (.ex (eBin dAdd (.slot 8) (.ex (eLst [.val (eVar 11)])))), .val (eBin dIx (.slot 7) (.ex (eC (.int 0))))]))))) (sRet (eC (.bl false))) sNil) (sIf (eOr (eTB (eBin dNe (.ex (eBin dIx (.ex (eFn [.brw, .brw, .fz] v_ending [.bor (.slot 3), .bor (.slot 8), .val (eBin dIx (.slot 7) (.ex (eC (.int 0))))])) (.ex (eC (.int 0))))) (.ex (eC (.str [101, 110, 100, 115]))))) (eTB (eBin dNe (.ex (eBin dIx (.ex (eFn [.brw, .brw, .fz] v_ending [.bor (.slot 3), .bor (.ex (eBin dAdd (.slot 8) (.ex (eLst [.val (eVar 11)])))), .val (eBin dIx (.slot 7) (.ex (eC (.int 0))))])) (.ex (eC (.int 0))))) (.ex (eC (.str [114, 111, 117, 110, 100])))))) (sRet (eC (.bl false))) sNil))))))))))) (sSeq (sSet 13 (eFn [.brw, .brw, .fz] v_ending [.bor (.ex (eC (.int 5))), .bor (.ex (eLst [.val (eTup [.val (eC (.int 0)), .val (eC (.int 1))]), .val (eTup [.val (eC (.int 1)), .val (eC (.int 2))]), .val (eTup [.val (eC (.int 0)), .val (eC (.int 2))]), .val (eTup [.val (eC (.int 2)), .val (eC (.int 3))]), .val (eTup [.val (eC (.int 4)), .val (eC (.int 4))])])), .val (eC (.int 0))])) (sRet (eAndV (eBin dEq (.slot 13) (.ex (eTup [.val (eC (.str [101, 110, 100, 115])), .val (eLst [.val (eC (.int 3)), .val (eC (.int 2)), .val (eC (.int 1)), .val (eC (.int 0)), .val (eNeg (eC (.int 1)))])]))) (eBin dEq (.ex (eBin dIx (.ex (eFn [.brw, .brw, .fz] v_ending [.bor (.ex (eC (.int 2))), .bor (.ex (eLst [.val (eTup [.val (eC (.int 0)), .val (eC (.int 1))]), .val (eTup [.val (eC (.int 1)), .val (eC (.int 1))])])), .val (eC (.int 0))])) (.ex (eC (.int 0))))) (.ex (eC (.str [114, 111, 117, 110, 100])))))))))
def v_law : Fe := fun ds => noexn (fnEv [.brw] 17 b_law ds)
theorem ok_law (T : Top K mg) : FnOk P w K mg base CX0 9 T.a_law T.d_law ["script"] (spFn K mg [.brw] .fz v_law EX0) := by
  refine fn_ok0 (N := N_law) (As := List.range 17) T.F_law sc_law rfl (by decide) (fun cdv A outer s H vs E hr hl hio => ?_) (.inr rfl)
  have hp : PassesOwn (model P w) (A.deeper (envOfC "law" (defScope s_law) s.heap.objs.size T.a_law cdv)) (envOfC "law" (defScope s_law) s.heap.objs.size T.a_law cdv) (fun _ _ => False) := PassesOwn.never
  have hN := sc_law.nd
  have hu : (A.deeper (envOfC "law" (defScope s_law) s.heap.objs.size T.a_law cdv)).units + 64 < cLine := by have := hr.un; omega
  have hu0 : (A.deeper (envOfC "law" (defScope s_law) s.heap.objs.size T.a_law cdv)).units < cLine := by have := hr.un; omega
  have hu1 : (A.deeper (envOfC "law" (defScope s_law) s.heap.objs.size T.a_law cdv)).units + 65 < cLine := by have := hr.un; omega
  match vs, hl with
  | [x0], _ =>
  exact ⟨[.fz, .fz, .fz, .fz, .fz, .fz, .fz, .fz, .fz, .fz, .fz, .fz, .fz, .fz, .fz, .fz, .fz], (by intro i q h; cases h), (vss_cons (vs_set hN rfl (by first | exact .inl rfl | exact .inr rfl) (ve_call0 (fe := v__law_feed) (pms := [.brw]) (.inl rfl) (va_cons (va_bor (vb_slot (pv 0))) va_nil) rfl (nodupB rfl) rfl (fun h => pe_call (ok__law_feed T) (hr.mono (by decide)) (by rfl) T.m__law_feed T.F__law_feed.kp T.b__law_feed .nil pass0 h)) (.inr rfl) (ltB rfl) (memB rfl)) (vss_cons (vs_for hp rfl (vi_rng1 (by rfl) T.z_range (va_cons (va_val ve_int) va_nil)) (vg_name hN rfl (by first | exact .inl rfl | exact .inr rfl) rfl (memB rfl)) (vss_cons (vs_asg (ve_coe (ve_call0 (fe := v__law_course) (pms := [.io]) (.inl rfl) (va_cons (va_io (pv 1)) va_nil) rfl (nodupB rfl) rfl (fun h => pe_call (ok__law_course T) (hr.mono (by decide)) (by rfl) T.m__law_course T.F__law_course.kp T.b__law_course .nil pass0 h))) (vg_tup rfl (vgs_cons (vg_name hN rfl (by first | exact .inl rfl | exact .inr rfl) rfl (memB rfl)) (vgs_cons (vg_name hN rfl (by first | exact .inl rfl | exact .inr rfl) rfl (memB rfl)) (vgs_cons (vg_name hN rfl (by first | exact .inl rfl | exact .inr rfl) rfl (memB rfl)) vgs_nil))))) (vss_cons (vs_set hN rfl (by first | exact .inl rfl | exact .inr rfl) (ve_call0 (fe := v__law_draw) (pms := [.io, .brw]) (.inr rfl) (va_cons (va_io (pv 1)) (va_cons (va_bor (vb_slot (pv 3))) va_nil)) rfl (nodupB rfl) rfl (fun h => pe_call (ok__law_draw T) (hr.mono (by decide)) (by rfl) T.m__law_draw T.F__law_draw.kp T.b__law_draw .nil pass0 h)) (.inl rfl) (ltB rfl) (memB rfl)) (vss_cons (vs_set hN rfl (by first | exact .inl rfl | exact .inr rfl) (ve_coe (ve_call0 (fe := v__law_names) (pms := [.io, .fz]) (.inl rfl) (va_cons (va_io (pv 1)) (va_cons (va_val (ve_fz (pv 3) rfl)) va_nil)) rfl (nodupB rfl) rfl (fun h => pe_call (ok__law_names T) (hr.mono (by decide)) (by rfl) T.m__law_names T.F__law_names.kp T.b__law_names .nil pass0 h))) (.inl rfl) (ltB rfl) (memB rfl)) (vss_cons (vs_setLc (m := .fz) rfl hN rfl rfl (sw_true rfl rfl rfl (by decide +kernel)) (own := [("k", 14)]) (vi_rng1 (by rfl) T.z_range (va_cons (va_val (ve_bin op_sub f_sub (vb_slot (pv 3)) (vb_ex ve_int))) va_nil)) (blkOk_by (by kernel_rfl)) (allFz_ok rfl) (fun _ _ _ _ _ => (vg_name hN rfl (by first | exact .inl rfl | exact .inr rfl) rfl (memB rfl))) (fun _ _ _ _ _ => vts_nil) (fun _ _ _ _ _ => (ve_tup (va_cons (va_val (ve_ix ix_seq f_ix (vb_slot (pv 7)) (vb_slot (pv 14)) (fun _ _ => rfl))) (va_cons (va_val (ve_ix ix_seq f_ix (vb_slot (pv 7)) (vb_ex (ve_bin op_addA f_add (vb_slot (pv 14)) (vb_ex ve_int))) (fun _ _ => rfl))) va_nil)) rfl)) (.inr rfl) (ltB rfl) (memB rfl)) (vss_cons (vs_setLc (m := .fz) rfl hN rfl rfl (sw_true rfl rfl rfl (by decide +kernel)) (own := [("i", 15), ("j", 16)]) (vi_any (vb_ex (ve_fz (pv 5) rfl))) (blkOk_by (by kernel_rfl)) (allFz_ok rfl) (fun _ _ _ _ _ => (vg_tup rfl (vgs_cons (vg_name hN rfl (by first | exact .inl rfl | exact .inr rfl) rfl (memB rfl)) (vgs_cons (vg_name hN rfl (by first | exact .inl rfl | exact .inr rfl) rfl (memB rfl)) vgs_nil)))) (fun _ _ _ _ _ => (vts_one (vt_cmp (op_ltA hu0) f_lt (vb_ex (ve_ix ix_seq f_ix (vb_slot (pv 7)) (vb_slot (pv 15)) (fun _ _ => rfl))) (vb_ex (ve_ix ix_seq f_ix (vb_slot (pv 7)) (vb_slot (pv 16)) (fun _ _ => rfl))) (nomark _)))) (fun _ _ _ _ _ => (ve_tup (va_cons (va_val (ve_fz (pv 15) rfl)) (va_cons (va_val (ve_fz (pv 16) rfl)) va_nil)) rfl)) (.inr rfl) (ltB rfl) (memB rfl)) (vss_cons (vs_set hN rfl (by first | exact .inl rfl | exact .inr rfl) (ve_call0 (fe := v__law_draw) (pms := [.io, .brw]) (.inr rfl) (va_cons (va_io (pv 1)) (va_cons (va_bor (vb_slot (pv 3))) va_nil)) rfl (nodupB rfl) rfl (fun h => pe_call (ok__law_draw T) (hr.mono (by decide)) (by rfl) T.m__law_draw T.F__law_draw.kp T.b__law_draw .nil pass0 h)) (.inl rfl) (ltB rfl) (memB rfl)) (vss_cons (vs_set hN rfl (by first | exact .inl rfl | exact .inr rfl) (ve_tup (va_cons (va_val (ve_ix ix_seq f_ix (vb_slot (pv 7)) (vb_ex (ve_bin op_sub f_sub (vb_slot (pv 3)) (vb_ex ve_int))) (fun _ _ => rfl))) (va_cons (va_val (ve_ix ix_seq f_ix (vb_slot (pv 7)) (vb_slot (pv 10)) (fun _ _ => rfl))) va_nil)) rfl) (.inl rfl) (ltB rfl) (memB rfl)) (vss_cons (vs_for hp rfl (vi_any (vb_ex (ve_lst (va_cons (va_val (ve_fz (pv 5) rfl)) (va_cons (va_val (ve_fz (pv 9) rfl)) (va_cons (va_val (ve_fz (pv 8) rfl)) (va_cons (va_val (ve_coe (ve_bin op_addA f_add (vb_slot (pv 8)) (vb_ex (ve_lst (va_cons (va_val (ve_fz (pv 11) rfl)) va_nil) rfl))))) (va_cons (va_val (ve_coe (ve_bin op_addA f_add (vb_slot (pv 9)) (vb_ex (ve_lst (va_cons (va_val (ve_fz (pv 11) rfl)) va_nil) rfl))))) (va_cons (va_val (ve_coe (ve_bin op_addA f_add (vb_ex (ve_slice (vb_slot (pv 5)) (vpo_some ve_int) vpo_none)) (vb_ex (ve_slice (vb_slot (pv 5)) vpo_none (vpo_some ve_int)))))) (va_cons (va_val (ve_coe (ve_lst va_nil rfl))) va_nil))))))) rfl))) (vg_name hN rfl (by first | exact .inl rfl | exact .inr rfl) rfl (memB rfl)) (vss_one (vs_if (vt_not (vt_tru (vb_ex (ve_call0 (fe := v__law_asks) (pms := [.fz, .brw, .fz]) (.inr rfl) (va_cons (va_val (ve_fz (pv 3) rfl)) (va_cons (va_bor (vb_ex (ve_slice (vb_slot (pv 12)) vpo_none (vpo_some ve_int)))) (va_cons (va_val (ve_fz (pv 6) rfl)) va_nil))) rfl (nodupB rfl) rfl (fun h => pe_call (ok__law_asks T) (hr.mono (by decide)) (by rfl) T.m__law_asks T.F__law_asks.kp T.b__law_asks .nil pass0 h))))) (vss_one (vs_ret ve_bl rfl (by intro i q h; cases h))) vss_nil))) (vss_cons (vs_if (vt_bool (vw_or (vt_not (vt_tru (vb_ex (ve_call0 (fe := v__law_asks) (pms := [.fz, .brw, .fz]) (.inr rfl) (va_cons (va_val (ve_fz (pv 3) rfl)) (va_cons (va_bor (vb_slot (pv 8))) (va_cons (va_val (ve_ix ix_seq f_ix (vb_slot (pv 7)) (vb_ex ve_int) (fun _ _ => rfl))) va_nil))) rfl (nodupB rfl) rfl (fun h => pe_call (ok__law_asks T) (hr.mono (by decide)) (by rfl) T.m__law_asks T.F__law_asks.kp T.b__law_asks .nil pass0 h))))) (vw_or1 (vt_not (vt_tru (vb_ex (ve_call0 (fe := v__law_asks) (pms := [.fz, .brw, .fz]) (.inr rfl) (va_cons (va_val (ve_fz (pv 3) rfl)) (va_cons (va_bor (vb_ex (ve_bin op_addA f_add (vb_slot (pv 8)) (vb_ex (ve_lst (va_cons (va_val (ve_fz (pv 11) rfl)) va_nil) rfl))))) (va_cons (va_val (ve_ix ix_seq f_ix (vb_slot (pv 7)) (vb_ex ve_int) (fun _ _ => rfl))) va_nil))) rfl (nodupB rfl) rfl (fun h => pe_call (ok__law_asks T) (hr.mono (by decide)) (by rfl) T.m__law_asks T.F__law_asks.kp T.b__law_asks .nil pass0 h)))))))) (vss_one (vs_ret ve_bl rfl (by intro i q h; cases h))) vss_nil) (vss_one (vs_if (vt_bool (vw_or (vt_cmp (op_neA hu) f_ne (vb_ex (ve_ix ix_seq f_ix (vb_ex (ve_call0 (fe := v_ending) (pms := [.brw, .brw, .fz]) (.inl rfl) (va_cons (va_bor (vb_slot (pv 3))) (va_cons (va_bor (vb_slot (pv 8))) (va_cons (va_val (ve_ix ix_seq f_ix (vb_slot (pv 7)) (vb_ex ve_int) (fun _ _ => rfl))) va_nil))) rfl (nodupB rfl) rfl (fun h => pe_call (ok_ending T) (hr.mono (by decide)) (by rfl) T.m_ending T.F_ending.kp T.b_ending .nil pass0 h))) (vb_ex ve_int) (fun _ _ => rfl))) (vb_ex (ve_str (l := [101, 110, 100, 115]) (by decide +kernel))) (nomark _)) (vw_or1 (vt_cmp (op_neA hu) f_ne (vb_ex (ve_ix ix_seq f_ix (vb_ex (ve_call0 (fe := v_ending) (pms := [.brw, .brw, .fz]) (.inl rfl) (va_cons (va_bor (vb_slot (pv 3))) (va_cons (va_bor (vb_ex (ve_bin op_addA f_add (vb_slot (pv 8)) (vb_ex (ve_lst (va_cons (va_val (ve_fz (pv 11) rfl)) va_nil) rfl))))) (va_cons (va_val (ve_ix ix_seq f_ix (vb_slot (pv 7)) (vb_ex ve_int) (fun _ _ => rfl))) va_nil))) rfl (nodupB rfl) rfl (fun h => pe_call (ok_ending T) (hr.mono (by decide)) (by rfl) T.m_ending T.F_ending.kp T.b_ending .nil pass0 h))) (vb_ex ve_int) (fun _ _ => rfl))) (vb_ex (ve_str (l := [114, 111, 117, 110, 100]) (by decide +kernel))) (nomark _))))) (vss_one (vs_ret ve_bl rfl (by intro i q h; cases h))) vss_nil)))))))))))) (vss_cons (vs_set hN rfl (by first | exact .inl rfl | exact .inr rfl) (ve_coe (ve_call0 (fe := v_ending) (pms := [.brw, .brw, .fz]) (.inl rfl) (va_cons (va_bor (vb_ex ve_int)) (va_cons (va_bor (vb_ex (ve_lst (va_cons (va_val (ve_tup (va_cons (va_val ve_int) (va_cons (va_val ve_int) va_nil)) rfl)) (va_cons (va_val (ve_tup (va_cons (va_val ve_int) (va_cons (va_val ve_int) va_nil)) rfl)) (va_cons (va_val (ve_tup (va_cons (va_val ve_int) (va_cons (va_val ve_int) va_nil)) rfl)) (va_cons (va_val (ve_tup (va_cons (va_val ve_int) (va_cons (va_val ve_int) va_nil)) rfl)) (va_cons (va_val (ve_tup (va_cons (va_val ve_int) (va_cons (va_val ve_int) va_nil)) rfl)) va_nil))))) rfl))) (va_cons (va_val ve_int) va_nil))) rfl (nodupB rfl) rfl (fun h => pe_call (ok_ending T) (hr.mono (by decide)) (by rfl) T.m_ending T.F_ending.kp T.b_ending .nil pass0 h))) (.inl rfl) (ltB rfl) (memB rfl)) (vss_one (vs_ret (ve_and (ve_cmp (op_eqA hu) f_eq (vb_slot (pv 13)) (vb_ex (ve_tup (va_cons (va_val (ve_str (l := [101, 110, 100, 115]) (by decide +kernel))) (va_cons (va_val (ve_coe (ve_lst (va_cons (va_val ve_int) (va_cons (va_val ve_int) (va_cons (va_val ve_int) (va_cons (va_val ve_int) (va_cons (va_val (ve_neg ve_int)) va_nil))))) rfl))) va_nil)) rfl)) (nomark _)) (ve_one (ve_cmp (op_eqA hu) f_eq (vb_ex (ve_ix ix_seq f_ix (vb_ex (ve_call0 (fe := v_ending) (pms := [.brw, .brw, .fz]) (.inl rfl) (va_cons (va_bor (vb_ex ve_int)) (va_cons (va_bor (vb_ex (ve_lst (va_cons (va_val (ve_tup (va_cons (va_val ve_int) (va_cons (va_val ve_int) va_nil)) rfl)) (va_cons (va_val (ve_tup (va_cons (va_val ve_int) (va_cons (va_val ve_int) va_nil)) rfl)) va_nil)) rfl))) (va_cons (va_val ve_int) va_nil))) rfl (nodupB rfl) rfl (fun h => pe_call (ok_ending T) (hr.mono (by decide)) (by rfl) T.m_ending T.F_ending.kp T.b_ending .nil pass0 h))) (vb_ex ve_int) (fun _ _ => rfl))) (vb_ex (ve_str (l := [114, 111, 117, 110, 100]) (by decide +kernel))) (nomark _)))) rfl (by intro i q h; cases h))))))⟩
end
end G_k83


set_option Elab.async false
set_option linter.all false
set_option maxRecDepth 100000
set_option maxHeartbeats 4000000
namespace G_k83
open PySem PySem.Spec PyProof.Rows L2 VL
section
local macro_rules | `(tactic| and_intros) => `(tactic| try conv => arg 2; simp only [sq_nil, sq_pass, sq_brk, sq_cont, sq_expr, sq_ret, sq_retN, sq_set, sq_aug, sq_asg, sq_seq, sq_if, sq_for, sq_while, sq_try, sq_fr, sq_raise, sq_par, sq_setIx, sq_augIx,
  sRaise_q, sPar_q, sSetIx_q, sAugIx_q, sl_if, sl_for, sl_while, sNil_ap, sPass_ap, sBrk_ap, sCont_ap, sExpr_ap, sRet_ap, sRetN_ap, sSet_ap, sAug_ap, sAsg_ap,
  eVarB_q, eUp_q, eLend_ap, nc_non', nc_int', nc_bl', nc_str', nc_tup', eTB_q, eNeg_q, eNotV_q, eAndV_q, eOrV_q, runI_n, runI_q, eTup_q, eLst_q, eChain_q, eFn_q, eFn0_ap, eMut_q, eMth_q, eXf_q, eIsE_q, eEnum_q, eLC_q, sq_setIxK, sSetIxK_q, sq_lk, sl_lk, eKeys_q, eDct0_q, eDct1_q, eRev_q, eSl_ap, eNotT_ap, eTru_ap, eAnd_ap, eOr_ap, eNot_ap, eIf_ap, eBin_ap, eCall_ap, eC_ap, eVar_ap, eTy_ap, tYesE_ap, eRng_ap, eIt_ap,
  Opd.run_slot, Opd.run_ex, Opd.fin_slot, Opd.fin_ex, Arg.run_bor, Arg.run_val, Arg.run_io, Arg.fin_bor, Arg.fin_val, Arg.fin_io, Arg.runs_nil, Arg.runs_cons, Arg.fins_nil, Arg.fins_cons,
  gv_z, gv_s, optS, tg_name, tg_2, tg_3, Res.bind_ok, Res.bind_assoc, exnR_bind, List.set_cons_zero, List.set_cons_succ, wipeE_nil, wipeE_cons, backE_nil, backE_cons, List.getElem?_cons_zero, List.getElem?_cons_succ, Option.getD_some, List.getD_cons_zero, List.getD_cons_succ, List.nil_append, toI_int, toB_bl, toL_lst, un2_tup, un3_tup, un4_tup, enumR_lst, enumR_str,
  ioCells_io, ioCells_fz, ioCells_brw, ioCells_nil, Bool.and_true, ioSl_io, ioSl_bor, ioSl_val, ioSl_nil, setOuts_cons, setOuts_nil, ckB_true, lenG_0, lenG_1, lenG_2, lenG_3, lenG_4, lenG_5, lenG_6, lenG_7, lenG_8, lenG_9, lenG_10, lenG_11, lenG_12, lenG_13, lenG_14, lenG_15, lenG_16, lenG_17, lenG_18, lenG_19, lenG_20, lenG_21, lenG_22, lenG_23, lenG_24, lenG_25, lenG_26, lenG_27, lenG_28, lenG_29, lenG_30, lenG_31, lenG_32, lenG_33, lenG_34, lenG_35, lenG_36, lenG_37, lenG_38, lenG_39, lenG_40, eOut_0, eOut_1, eOut_2])
def m_led_to_c1 (state : D) (d : D) : Res (Option D) :=
  (un2 d).bind fun p2 =>
  (opt (dEq p2.1 state)).bind fun t3 =>
  (toB t3).bind fun b4 =>
  if b4 = true then (
    .ok (some p2.2))
  else .ok none
theorem e_led_to_c1 (state : D) (u0 : Option D) (d : D) : Sim (m_led_to_c1 state d) (lcIt [2, 3] (.tup [.name 2, .name 3]) (eTB (eBin dEq (.slot 2) (.slot 1))) (eVar 3) d [u0, some state, none, none]) (fun a b => b = (a, [u0, some state, none, none])) := by
  unfold m_led_to_c1 lcIt
  and_intros
  refine Sim.same fun p2 => ?_
  refine Sim.same fun t3 => ?_
  refine Sim.same fun b4 => ?_
  refine Sim.ite ?_ ?_
  · exact ⟨_, rfl, rfl⟩
  · exact ⟨_, rfl, rfl⟩
def m_led_to (moves state : D) : Res (D) := noexn (
  (opt (itD moves)).bind fun l1 =>
  (lenG l1).bind fun _ =>
  (mFil l1 (m_led_to_c1 state)).bind fun l5 =>
  .ok (.lst l5))
theorem e_led_to (moves state : D) : Sim (m_led_to moves state) (v_led_to [moves, state]) (fun r q => q = (r, [])) := by
  unfold m_led_to v_led_to
  refine Sim.noexn (sim_fn (RR := RR0) (os := fun v : D => (v, ([] : List D))) (E := [some moves, some state, none, none]) rfl rr0 ?_)
  unfold b_led_to
  and_intros
  refine Sim.same fun l1 => ?_
  refine Sim.same fun _ => ?_
  refine Sim.bind (sim_fil (fun d => e_led_to_c1 ..)) ?_
  rintro l5 _ rfl
  and_intros
  exact fR rfl
abbrev P_parents_from_1 (moves : D) (u1 : Option D) (s : D × D) (ρ : VL.Env) : Prop := ∃ w4 w5 w6, ρ = [some moves, u1, some s.1, some s.2, w4, w5, w6]
abbrev P_parents_from_2 (moves : D) (u1 u3 : Option D) (s : D × D) (ρ : VL.Env) : Prop := ∃ w5 w6, ρ = [some moves, u1, some s.1, u3, some s.2, w5, w6]
abbrev P_parents_from_3 (state : D) (u0 u1 u3 : Option D) (s : D × D) (ρ : VL.Env) : Prop := ∃ w6, ρ = [u0, u1, some s.1, u3, some s.2, some state, w6]
def m_parents_from_b3 (state : D) (d : D) (s : D × D) : Res (D × D) :=
  (opt (dNotInK d s.1)).bind fun t5 =>
  (toB t5).bind fun b6 =>
  if b6 = true then (
    (setKR s.1 d state).bind fun parents7 =>
    (toL s.2).bind fun l8 =>
    (toL s.2).bind fun l9 =>
    (opt (mAppend l9 [d])).bind fun r10 =>
    .ok (parents7, .lst r10.1))
  else (
    .ok (s.1, s.2))
theorem e_parents_from_b3 (state : D) (u0 u1 u3 : Option D) (u6 : Option D) (d : D) (s : D × D) : Sim (m_parents_from_b3 state d s) ((opt (bindT (.name 6) d [u0, u1, some s.1, u3, some s.2, some state, u6])).bind (sIf (eTB (eBin dNotInK (.slot 6) (.slot 2))) (sSeq (sSetIxK 2 (eVar 6) (eVar 5)) (sExpr (eMut 4 mAppend [.val (eVar 6)]))) sNil)) (QN (P_parents_from_3 state u0 u1 u3)) := by
  unfold m_parents_from_b3
  and_intros
  refine Sim.same fun t5 => ?_
  refine Sim.same fun b6 => ?_
  refine Sim.ite ?_ ?_
  · refine Sim.app ?_
    and_intros
    refine Sim.same fun parents7 => ?_
    refine Sim.app ?_
    and_intros
    refine Sim.same fun l8 => ?_
    refine Sim.same fun l9 => ?_
    refine Sim.same fun r10 => ?_
    exact fNn ⟨_, rfl⟩
  · refine Sim.app ?_
    and_intros
    exact fNn ⟨_, rfl⟩
def m_parents_from_b2 (moves : D) (d : D) (s : D × D) : Res (D × D) :=
  (m_led_to moves d).bind fun t3 =>
  (opt (itD t3)).bind fun l4 =>
  (forN l4 (s.1, s.2) (m_parents_from_b3 d)).bind fun s11 =>
  .ok (s11.1, s11.2)
theorem e_parents_from_b2 (moves : D) (u1 u3 : Option D) (u5 u6 : Option D) (d : D) (s : D × D) : Sim (m_parents_from_b2 moves d s) ((opt (bindT (.name 5) d [some moves, u1, some s.1, u3, some s.2, u5, u6])).bind (sFor (eIt (eFn [.brw, .brw] v_led_to [.bor (.slot 0), .bor (.slot 5)])) (.name 6) (sIf (eTB (eBin dNotInK (.slot 6) (.slot 2))) (sSeq (sSetIxK 2 (eVar 6) (eVar 5)) (sExpr (eMut 4 mAppend [.val (eVar 6)]))) sNil))) (QN (P_parents_from_2 moves u1 u3)) := by
  unfold m_parents_from_b2
  and_intros
  refine Sim.bind (e_led_to moves d) ?_
  rintro t3 _ rfl
  and_intros
  refine Sim.same fun l4 => ?_
  refine Sim.bind (sim_forN (P := P_parents_from_3 d (some moves) u1 u3) (fun d s ρ h => ?_) ?_) ?_
  · obtain ⟨u6, rfl⟩ := h; exact e_parents_from_b3 ..
  · exact ⟨_, rfl⟩
  intro s11 fl hfl
  refine sim_aftN hfl (fun ρ h => ?_)
  obtain ⟨u6, rfl⟩ := h
  and_intros
  exact fNn ⟨_, _, rfl⟩
def m_parents_from_b1 (moves : D) (s : D × D) : Res (Stp (D × D) (Empty)) :=
  (opt (itD s.2)).bind fun l2 =>
  (forN l2 (s.1, .lst []) (m_parents_from_b2 moves)).bind fun s12 =>
  .ok (.next (s12.1, s12.2))
theorem e_parents_from_b1 (moves : D) (u1 : Option D) (u4 u5 u6 : Option D) (s : D × D) : Sim (m_parents_from_b1 moves s) ((sSeq (sSet 4 (eLst [])) (sSeq (sFor (eIt (eVar 3)) (.name 5) (sFor (eIt (eFn [.brw, .brw] v_led_to [.bor (.slot 0), .bor (.slot 5)])) (.name 6) (sIf (eTB (eBin dNotInK (.slot 6) (.slot 2))) (sSeq (sSetIxK 2 (eVar 6) (eVar 5)) (sExpr (eMut 4 mAppend [.val (eVar 6)]))) sNil))) (sSet 3 (eVar 4)))) [some moves, u1, some s.1, some s.2, u4, u5, u6]) (QS RRE (P_parents_from_1 moves u1)) := by
  unfold m_parents_from_b1
  and_intros
  refine Sim.app ?_
  and_intros
  refine Sim.same fun l2 => ?_
  refine Sim.bind (sim_forN (P := P_parents_from_2 moves u1 (some s.2)) (fun d s ρ h => ?_) ?_) ?_
  · obtain ⟨u5, u6, rfl⟩ := h; exact e_parents_from_b2 ..
  · exact ⟨_, _, rfl⟩
  intro s12 fl hfl
  refine sim_aftN hfl (fun ρ h => ?_)
  obtain ⟨u5, u6, rfl⟩ := h
  and_intros
  exact fSn ⟨_, _, _, rfl⟩
def m_parents_from_w1 (s : D × D) : Res Bool :=
  (opt (truD s.2)).bind fun b13 =>
  .ok b13
theorem e_parents_from_w1 (moves : D) (u1 : Option D) (u4 u5 u6 : Option D) (s : D × D) : Sim (m_parents_from_w1  s) ((eTru (.slot 3)) [some moves, u1, some s.1, some s.2, u4, u5, u6]) (fun c q => q.1 = c ∧ (P_parents_from_1 moves u1) s q.2) := by
  unfold m_parents_from_w1
  and_intros
  refine Sim.same fun b13 => ?_
  exact ⟨_, rfl, rfl, ⟨_, _, _, rfl⟩⟩
def m_parents_from (moves start : D) : Res (D) := noexn (
  (dct1R start .non).bind fun parents1 =>
  (whileB bigN (parents1, .lst [start]) m_parents_from_w1 (m_parents_from_b1 moves)).bind fun r => aftE r fun s14 =>
  .ok s14.1)
theorem e_parents_from (moves start : D) : Sim (m_parents_from moves start) (v_parents_from [moves, start]) (fun r q => q = (r, [])) := by
  unfold m_parents_from v_parents_from
  refine Sim.noexn (sim_fn (RR := RR0) (os := fun v : D => (v, ([] : List D))) (E := [some moves, some start, none, none, none, none, none]) rfl rr0 ?_)
  unfold b_parents_from
  and_intros
  refine Sim.same fun parents1 => ?_
  refine Sim.app ?_
  and_intros
  refine Sim.app ?_
  and_intros
  refine Sim.bind (sim_whileB (P := P_parents_from_1 moves (some start)) (RR := RRE) (fun s ρ h => ?_) (fun s ρ h => ?_) ?_) ?_
  · obtain ⟨u4, u5, u6, rfl⟩ := h; exact e_parents_from_w1 ..
  · obtain ⟨u4, u5, u6, rfl⟩ := h; exact e_parents_from_b1 ..
  · exact ⟨_, _, _, rfl⟩
  intro r fl hfl
  refine sim_aftE hfl (fun s14 ρ h => ?_)
  obtain ⟨u4, u5, u6, rfl⟩ := h
  and_intros
  exact fR rfl
abbrev P_find_ranks_1 (moves reached : D) (u0 u7 : Option D) (s : D) (ρ : VL.Env) : Prop := ∃ w4 w5 w6, ρ = [u0, some moves, some reached, some s, w4, w5, w6, u7]
abbrev P_find_ranks_2 (moves : D) (u0 u2 u4 u7 : Option D) (s : D) (ρ : VL.Env) : Prop := ∃ w5 w6, ρ = [u0, some moves, u2, some s, u4, w5, w6, u7]
def m_find_ranks_c3 (ranks : D) (d : D) : Res (D) :=
  (opt (dIx ranks d)).bind fun t6 =>
  .ok t6
theorem e_find_ranks_c3 (ranks : D) (u0 u1 u2 u4 u5 u6 : Option D) (d : D) : Sim (m_find_ranks_c3 ranks d) (lcIt [7] (.name 7) tYesE (eBin dIx (.slot 3) (.slot 7)) d [u0, u1, u2, some ranks, u4, u5, u6, none]) (fun a b => b = (some a, [u0, u1, u2, some ranks, u4, u5, u6, none])) := by
  unfold m_find_ranks_c3 lcIt
  and_intros
  refine Sim.same fun t6 => ?_
  exact ⟨_, rfl, rfl⟩
def m_find_ranks_b2 (moves : D) (d : D) (s : D) : Res (D) :=
  (m_led_to moves d).bind fun t4 =>
  (opt (itD t4)).bind fun l5 =>
  (lenG l5).bind fun _ =>
  (mMap l5 (m_find_ranks_c3 s)).bind fun told7 =>
  (opt (dIx s d)).bind fun t8 =>
  (opt (dEq t8 (.int (-1)))).bind fun t9 =>
  (toB t9).bind fun b10 =>
  (if b10 = true then (
      (opt (dNotIn (.int (-1)) (.lst told7))).bind fun t11 =>
      (toB t11).bind fun b12 =>
      .ok (b12) : Res (Bool)) else (
      .ok (false) : Res (Bool))).bind fun b13 =>
  if b13 = true then (
    (opt (fMaxLn1 [.lst told7])).bind fun t14 =>
    (opt (dAdd t14 (.int 1))).bind fun t15 =>
    (setR s d t15).bind fun ranks16 =>
    .ok (ranks16))
  else (
    .ok (s))
theorem e_find_ranks_b2 (moves : D) (u0 u2 u4 u7 : Option D) (u5 u6 : Option D) (d : D) (s : D) : Sim (m_find_ranks_b2 moves d s) ((opt (bindT (.name 5) d [u0, some moves, u2, some s, u4, u5, u6, u7])).bind (sSeq (sSet 6 (eLC (eIt (eFn [.brw, .brw] v_led_to [.bor (.slot 1), .bor (.slot 5)])) [7] (.name 7) tYesE (eBin dIx (.slot 3) (.slot 7)))) (sIf (eAnd (eTB (eBin dEq (.ex (eBin dIx (.slot 3) (.slot 5))) (.ex (eNeg (eC (.int 1)))))) (eTB (eBin dNotIn (.ex (eNeg (eC (.int 1)))) (.slot 6)))) (sSetIx 3 (eVar 5) (eBin dAdd (.ex (eCall fMaxLn1 [.bor (.slot 6)])) (.ex (eC (.int 1))))) sNil))) (QN (P_find_ranks_2 moves u0 u2 u4 u7)) := by
  unfold m_find_ranks_b2
  and_intros
  refine Sim.bind (e_led_to moves d) ?_
  rintro t4 _ rfl
  and_intros
  refine Sim.same fun l5 => ?_
  refine Sim.same fun _ => ?_
  refine Sim.bind (sim_map (fun d => e_find_ranks_c3 ..)) ?_
  rintro told7 _ rfl
  and_intros
  refine Sim.app ?_
  and_intros
  refine Sim.same fun t8 => ?_
  refine Sim.same fun t9 => ?_
  refine Sim.same fun b10 => ?_
  first | refine Sim.bind (P := fun a b => b = (a, [u0, some moves, u2, some s, u4, some d, some (.lst told7), u7])) (Sim.ite ?_ ?_) ?_ | refine Sim.bindR (P := fun a b => b = (a, [u0, some moves, u2, some s, u4, some d, some (.lst told7), u7])) (Sim.ite ?_ ?_) ?_
  · refine Sim.same fun t11 => ?_
    refine Sim.same fun b12 => ?_
    exact ⟨_, rfl, rfl⟩
  · exact ⟨_, rfl, rfl⟩
  rintro b13 _ rfl
  and_intros
  refine Sim.ite ?_ ?_
  · refine Sim.app ?_
    and_intros
    refine Sim.same fun t14 => ?_
    refine Sim.same fun t15 => ?_
    refine Sim.same fun ranks16 => ?_
    exact fNn ⟨_, _, rfl⟩
  · refine Sim.app ?_
    and_intros
    exact fNn ⟨_, _, rfl⟩
def m_find_ranks_b1 (moves reached : D) (d : D) (s : D) : Res (D) :=
  (opt (itD reached)).bind fun l3 =>
  (forN l3 (s) (m_find_ranks_b2 moves)).bind fun s17 =>
  .ok (s17)
theorem e_find_ranks_b1 (moves reached : D) (u0 u7 : Option D) (u4 u5 u6 : Option D) (d : D) (s : D) : Sim (m_find_ranks_b1 moves reached d s) ((opt (bindT (.name 4) d [u0, some moves, some reached, some s, u4, u5, u6, u7])).bind (sFor (eIt (eVar 2)) (.name 5) (sSeq (sSet 6 (eLC (eIt (eFn [.brw, .brw] v_led_to [.bor (.slot 1), .bor (.slot 5)])) [7] (.name 7) tYesE (eBin dIx (.slot 3) (.slot 7)))) (sIf (eAnd (eTB (eBin dEq (.ex (eBin dIx (.slot 3) (.slot 5))) (.ex (eNeg (eC (.int 1)))))) (eTB (eBin dNotIn (.ex (eNeg (eC (.int 1)))) (.slot 6)))) (sSetIx 3 (eVar 5) (eBin dAdd (.ex (eCall fMaxLn1 [.bor (.slot 6)])) (.ex (eC (.int 1))))) sNil)))) (QN (P_find_ranks_1 moves reached u0 u7)) := by
  unfold m_find_ranks_b1
  and_intros
  refine Sim.same fun l3 => ?_
  refine Sim.bind (sim_forN (P := P_find_ranks_2 moves u0 (some reached) (some d) u7) (fun d s ρ h => ?_) ?_) ?_
  · obtain ⟨u5, u6, rfl⟩ := h; exact e_find_ranks_b2 ..
  · exact ⟨_, _, rfl⟩
  intro s17 fl hfl
  refine sim_aftN hfl (fun ρ h => ?_)
  obtain ⟨u5, u6, rfl⟩ := h
  and_intros
  exact fNn ⟨_, _, _, rfl⟩
def m_find_ranks (n moves reached : D) : Res (D) := noexn (
  (opt (dMul (.lst [.int (-1)]) n)).bind fun ranks1 =>
  (opt (itD reached)).bind fun l2 =>
  (forN l2 (ranks1) (m_find_ranks_b1 moves reached)).bind fun s18 =>
  .ok s18)
theorem e_find_ranks (n moves reached : D) : Sim (m_find_ranks n moves reached) (v_find_ranks [n, moves, reached]) (fun r q => q = (r, [])) := by
  unfold m_find_ranks v_find_ranks
  refine Sim.noexn (sim_fn (RR := RR0) (os := fun v : D => (v, ([] : List D))) (E := [some n, some moves, some reached, none, none, none, none, none]) rfl rr0 ?_)
  unfold b_find_ranks
  and_intros
  refine Sim.same fun ranks1 => ?_
  refine Sim.app ?_
  and_intros
  refine Sim.same fun l2 => ?_
  refine Sim.bind (sim_forN (P := P_find_ranks_1 moves reached (some n) none) (fun d s ρ h => ?_) ?_) ?_
  · obtain ⟨u4, u5, u6, rfl⟩ := h; exact e_find_ranks_b1 ..
  · exact ⟨_, _, _, rfl⟩
  intro s18 fl hfl
  refine sim_aftN hfl (fun ρ h => ?_)
  obtain ⟨u4, u5, u6, rfl⟩ := h
  and_intros
  exact fR rfl
abbrev P_endless_run_1 (moves ranks : D) (u2 u5 : Option D) (s : D) (ρ : VL.Env) : Prop := ∃ w4, ρ = [some moves, some ranks, u2, some s, w4, u5]
def m_endless_run_c2 (ranks : D) (d : D) : Res (Option D) :=
  (opt (dIx ranks d)).bind fun t4 =>
  (opt (dEq t4 (.int (-1)))).bind fun t5 =>
  (toB t5).bind fun b6 =>
  if b6 = true then (
    .ok (some d))
  else .ok none
theorem e_endless_run_c2 (ranks : D) (u0 u2 u3 u4 : Option D) (d : D) : Sim (m_endless_run_c2 ranks d) (lcIt [5] (.name 5) (eTB (eBin dEq (.ex (eBin dIx (.slot 1) (.slot 5))) (.ex (eNeg (eC (.int 1)))))) (eVar 5) d [u0, some ranks, u2, u3, u4, none]) (fun a b => b = (a, [u0, some ranks, u2, u3, u4, none])) := by
  unfold m_endless_run_c2 lcIt
  and_intros
  refine Sim.same fun t4 => ?_
  refine Sim.same fun t5 => ?_
  refine Sim.same fun b6 => ?_
  refine Sim.ite ?_ ?_
  · exact ⟨_, rfl, rfl⟩
  · exact ⟨_, rfl, rfl⟩
def m_endless_run_b1 (moves ranks : D) (s : D) : Res (Stp (D) (Empty)) :=
  (opt (dIx s (.int (-1)))).bind fun t1 =>
  (m_led_to moves t1).bind fun t2 =>
  (opt (itD t2)).bind fun l3 =>
  (lenG l3).bind fun _ =>
  (mFil l3 (m_endless_run_c2 ranks)).bind fun unranked7 =>
  (toL s).bind fun l8 =>
  (opt (dIx (.lst unranked7) (.int 0))).bind fun t9 =>
  (toL s).bind fun l10 =>
  (opt (mAppend l10 [t9])).bind fun r11 =>
  .ok (.next (.lst r11.1))
theorem e_endless_run_b1 (moves ranks : D) (u2 u5 : Option D) (u4 : Option D) (s : D) : Sim (m_endless_run_b1 moves ranks s) ((sSeq (sSet 4 (eLC (eIt (eFn [.brw, .brw] v_led_to [.bor (.slot 0), .bor (.ex (eBin dIx (.slot 3) (.ex (eNeg (eC (.int 1))))))])) [5] (.name 5) (eTB (eBin dEq (.ex (eBin dIx (.slot 1) (.slot 5))) (.ex (eNeg (eC (.int 1)))))) (eVar 5))) (sExpr (eMut 3 mAppend [.val (eBin dIx (.slot 4) (.ex (eC (.int 0))))]))) [some moves, some ranks, u2, some s, u4, u5]) (QS RRE (P_endless_run_1 moves ranks u2 u5)) := by
  unfold m_endless_run_b1
  and_intros
  refine Sim.same fun t1 => ?_
  refine Sim.bind (e_led_to moves t1) ?_
  rintro t2 _ rfl
  and_intros
  refine Sim.same fun l3 => ?_
  refine Sim.same fun _ => ?_
  refine Sim.bind (sim_fil (fun d => e_endless_run_c2 ..)) ?_
  rintro unranked7 _ rfl
  and_intros
  refine Sim.app ?_
  and_intros
  refine Sim.same fun l8 => ?_
  refine Sim.same fun t9 => ?_
  refine Sim.same fun l10 => ?_
  refine Sim.same fun r11 => ?_
  exact fSn ⟨_, rfl⟩
def m_endless_run_w1 (s : D) : Res Bool :=
  (opt (dIx s (.int (-1)))).bind fun t12 =>
  (opt (dSlice s none (some (-1)))).bind fun t13 =>
  (opt (dNotIn t12 t13)).bind fun t14 =>
  (toB t14).bind fun b15 =>
  .ok b15
theorem e_endless_run_w1 (moves ranks : D) (u2 u5 : Option D) (u4 : Option D) (s : D) : Sim (m_endless_run_w1  s) ((eTB (eBin dNotIn (.ex (eBin dIx (.slot 3) (.ex (eNeg (eC (.int 1)))))) (.ex (eSl (.slot 3) none (some (eNeg (eC (.int 1)))))))) [some moves, some ranks, u2, some s, u4, u5]) (fun c q => q.1 = c ∧ (P_endless_run_1 moves ranks u2 u5) s q.2) := by
  unfold m_endless_run_w1
  and_intros
  refine Sim.same fun t12 => ?_
  refine Sim.same fun t13 => ?_
  refine Sim.same fun t14 => ?_
  refine Sim.same fun b15 => ?_
  exact ⟨_, rfl, rfl, ⟨_, rfl⟩⟩
def m_endless_run (moves ranks start : D) : Res (D) := noexn (
  (whileB bigN (.lst [start]) m_endless_run_w1 (m_endless_run_b1 moves ranks)).bind fun r => aftE r fun s16 =>
  .ok s16)
theorem e_endless_run (moves ranks start : D) : Sim (m_endless_run moves ranks start) (v_endless_run [moves, ranks, start]) (fun r q => q = (r, [])) := by
  unfold m_endless_run v_endless_run
  refine Sim.noexn (sim_fn (RR := RR0) (os := fun v : D => (v, ([] : List D))) (E := [some moves, some ranks, some start, none, none, none]) rfl rr0 ?_)
  unfold b_endless_run
  and_intros
  refine Sim.app ?_
  and_intros
  refine Sim.bind (sim_whileB (P := P_endless_run_1 moves ranks (some start) none) (RR := RRE) (fun s ρ h => ?_) (fun s ρ h => ?_) ?_) ?_
  · obtain ⟨u4, rfl⟩ := h; exact e_endless_run_w1 ..
  · obtain ⟨u4, rfl⟩ := h; exact e_endless_run_b1 ..
  · exact ⟨_, rfl⟩
  intro r fl hfl
  refine sim_aftE hfl (fun s16 ρ h => ?_)
  obtain ⟨u4, rfl⟩ := h
  and_intros
  exact fR rfl
def m_ending (n moves start : D) : Res (D) := noexn (
  (m_parents_from moves start).bind fun t1 =>
  (opt (fSortedK [t1])).bind fun reached2 =>
  (m_find_ranks n moves reached2).bind fun ranks3 =>
  (opt (dIx ranks3 start)).bind fun t4 =>
  (opt (dGe t4 (.int 0))).bind fun t5 =>
  (toB t5).bind fun b6 =>
  if b6 = true then (
    .ok (.tup [.str [101, 110, 100, 115], ranks3]))
  else (
    (m_endless_run moves ranks3 start).bind fun run7 =>
    (toL run7).bind fun l8 =>
    (opt (dIx run7 (.int (-1)))).bind fun t9 =>
    (toL run7).bind fun l10 =>
    (opt (mIndex l10 [t9])).bind fun first11 =>
    (opt (dAdd first11 (.int 1))).bind fun t12 =>
    (toI t12).bind fun i13 =>
    (opt (dSlice run7 none (some i13))).bind fun t14 =>
    (toI first11).bind fun i15 =>
    (opt (dSlice run7 (some i15) none)).bind fun t16 =>
    .ok (.tup [.str [114, 111, 117, 110, 100], t14, t16])))
theorem e_ending (n moves start : D) : Sim (m_ending n moves start) (v_ending [n, moves, start]) (fun r q => q = (r, [])) := by
  unfold m_ending v_ending
  refine Sim.noexn (sim_fn (RR := RR0) (os := fun v : D => (v, ([] : List D))) (E := [some n, some moves, some start, none, none, none, none]) rfl rr0 ?_)
  unfold b_ending
  and_intros
  refine Sim.bind (e_parents_from moves start) ?_
  rintro t1 _ rfl
  and_intros
  refine Sim.same fun reached2 => ?_
  refine Sim.app ?_
  and_intros
  refine Sim.bind (e_find_ranks n moves reached2) ?_
  rintro ranks3 _ rfl
  and_intros
  refine Sim.app ?_
  and_intros
  refine Sim.same fun t4 => ?_
  refine Sim.same fun t5 => ?_
  refine Sim.same fun b6 => ?_
  refine Sim.ite ?_ ?_
  · refine Sim.app ?_
    and_intros
    exact fR rfl
  · refine Sim.app ?_
    and_intros
    refine Sim.app ?_
    and_intros
    refine Sim.bind (e_endless_run moves ranks3 start) ?_
    rintro run7 _ rfl
    and_intros
    refine Sim.app ?_
    and_intros
    refine Sim.same fun l8 => ?_
    refine Sim.same fun t9 => ?_
    refine Sim.same fun l10 => ?_
    refine Sim.same fun first11 => ?_
    refine Sim.app ?_
    and_intros
    refine Sim.same fun t12 => ?_
    refine Sim.same fun i13 => ?_
    refine Sim.same fun t14 => ?_
    refine Sim.same fun i15 => ?_
    refine Sim.same fun t16 => ?_
    exact fR rfl
def m_is_whole (value : D) : Res (D) := noexn (
  (opt (fIsi "int" [value, .non])).bind fun t1 =>
  (toB t1).bind fun b2 =>
  (if b2 = true then (
    (opt (fIsi "bool" [value, .non])).bind fun t3 =>
    (toB t3).bind fun b4 =>
    .ok (.bl (!b4)) : Res (D)) else (
    .ok (.bl false) : Res (D))).bind fun t5 =>
  (nc t5).bind fun _ =>
  .ok t5)
theorem e_is_whole (value : D) : Sim (m_is_whole value) (v_is_whole [value]) (fun r q => q = (r, [])) := by
  unfold m_is_whole v_is_whole
  refine Sim.noexn (sim_fn (RR := RR0) (os := fun v : D => (v, ([] : List D))) (E := [some value]) rfl rr0 ?_)
  unfold b_is_whole
  and_intros
  refine Sim.same fun t1 => ?_
  refine Sim.same fun b2 => ?_
  first | refine Sim.bind (P := fun a b => b = (a, [some value])) (Sim.ite ?_ ?_) ?_ | refine Sim.bindR (P := fun a b => b = (a, [some value])) (Sim.ite ?_ ?_) ?_
  · refine Sim.same fun t3 => ?_
    refine Sim.same fun b4 => ?_
    exact ⟨_, rfl, rfl⟩
  · exact ⟨_, rfl, rfl⟩
  rintro t5 _ rfl
  and_intros
  refine Sim.same fun _ => ?_
  exact fR rfl
abbrev P_are_wholes_1 (u0 : Option D) (s : Unit) (ρ : VL.Env) : Prop := ∃ w1, ρ = [u0, w1]
def m_are_wholes_b1 (d : D) (s : Unit) : Res (Stp (Unit) (D)) :=
  (m_is_whole d).bind fun t4 =>
  (opt (truD t4)).bind fun b5 =>
  if (!b5) = true then (
    .ok (.ret (.bl false)))
  else (
    .ok (.next ()))
theorem e_are_wholes_b1 (u0 : Option D) (u1 : Option D) (d : D) (s : Unit) : Sim (m_are_wholes_b1  d s) ((opt (bindT (.name 1) d [u0, u1])).bind (sIf (eNot (eTru (.ex (eFn [.brw] v_is_whole [.bor (.slot 1)])))) (sRet (eUp (eC (.bl false)))) sNil)) (QS RR0 (P_are_wholes_1 u0)) := by
  unfold m_are_wholes_b1
  and_intros
  refine Sim.bind (e_is_whole d) ?_
  rintro t4 _ rfl
  and_intros
  refine Sim.same fun b5 => ?_
  refine Sim.ite ?_ ?_
  · refine Sim.app ?_
    and_intros
    exact fSr rfl
  · refine Sim.app ?_
    and_intros
    exact fSn ⟨_, rfl⟩
def m_are_wholes (value : D) : Res (D) := noexn (
  (opt (fIsi "list" [value, .non])).bind fun t1 =>
  (opt (truD t1)).bind fun b2 =>
  if (!b2) = true then (
    .ok (.bl false))
  else (
    (opt (itD value)).bind fun l3 =>
    (forB l3 () m_are_wholes_b1).bind fun r => aftF r fun s6 =>
    .ok (.bl true)))
theorem e_are_wholes (value : D) : Sim (m_are_wholes value) (v_are_wholes [value]) (fun r q => q = (r, [])) := by
  unfold m_are_wholes v_are_wholes
  refine Sim.noexn (sim_fn (RR := RR0) (os := fun v : D => (v, ([] : List D))) (E := [some value, none]) rfl rr0 ?_)
  unfold b_are_wholes
  and_intros
  refine Sim.same fun t1 => ?_
  refine Sim.same fun b2 => ?_
  refine Sim.ite ?_ ?_
  · refine Sim.app ?_
    and_intros
    exact fR rfl
  · refine Sim.app ?_
    and_intros
    refine Sim.app ?_
    and_intros
    refine Sim.same fun l3 => ?_
    refine Sim.bind (sim_forB (P := P_are_wholes_1 (some value)) (RR := RR0) (fun d s ρ h => ?_) ?_) ?_
    · obtain ⟨u1, rfl⟩ := h; exact e_are_wholes_b1 ..
    · exact ⟨_, rfl⟩
    intro r fl hfl
    refine sim_aftF hfl (fun s6 ρ h => ?_)
    obtain ⟨u1, rfl⟩ := h
    and_intros
    exact fR rfl
abbrev P_is_run_1 (moves run : D) (u1 : Option D) (s : Unit) (ρ : VL.Env) : Prop := ∃ w3, ρ = [some moves, u1, some run, w3]
def m_is_run_b1 (moves run : D) (d : D) (s : Unit) : Res (Stp (Unit) (D)) :=
  (opt (dSub d (.int 1))).bind fun t13 =>
  (opt (dIx run t13)).bind fun t14 =>
  (opt (dIx run d)).bind fun t15 =>
  (opt (dNotIn (.tup [t14, t15]) moves)).bind fun t16 =>
  (toB t16).bind fun b17 =>
  if b17 = true then (
    .ok (.ret (.bl false)))
  else (
    .ok (.next ()))
theorem e_is_run_b1 (moves run : D) (u1 : Option D) (u3 : Option D) (d : D) (s : Unit) : Sim (m_is_run_b1 moves run d s) ((opt (bindT (.name 3) d [some moves, u1, some run, u3])).bind (sIf (eTB (eBin dNotIn (.ex (eTup [.val (eBin dIx (.slot 2) (.ex (eBin dSub (.slot 3) (.ex (eC (.int 1)))))), .val (eBin dIx (.slot 2) (.slot 3))])) (.slot 0))) (sRet (eUp (eC (.bl false)))) sNil)) (QS RR0 (P_is_run_1 moves run u1)) := by
  unfold m_is_run_b1
  and_intros
  refine Sim.same fun t13 => ?_
  refine Sim.same fun t14 => ?_
  refine Sim.same fun t15 => ?_
  refine Sim.same fun t16 => ?_
  refine Sim.same fun b17 => ?_
  refine Sim.ite ?_ ?_
  · refine Sim.app ?_
    and_intros
    exact fSr rfl
  · refine Sim.app ?_
    and_intros
    exact fSn ⟨_, rfl⟩
def m_is_run (moves start run : D) : Res (D) := noexn (
  (m_are_wholes run).bind fun t1 =>
  (opt (truD t1)).bind fun b2 =>
  (if (!b2) = true then (
    .ok (true) : Res (Bool)) else (
    (opt (fLen [run])).bind fun t3 =>
    (opt (dEq t3 (.int 0))).bind fun t4 =>
    (toB t4).bind fun b5 =>
    (if b5 = true then (
        .ok (true) : Res (Bool)) else (
        (opt (dIx run (.int 0))).bind fun t6 =>
        (opt (dNe t6 start)).bind fun t7 =>
        (toB t7).bind fun b8 =>
        .ok (b8) : Res (Bool))).bind fun b9 =>
    .ok (b9) : Res (Bool))).bind fun b10 =>
  if b10 = true then (
    .ok (.bl false))
  else (
    (opt (fLen [run])).bind fun t11 =>
    (opt (rngOf [.int 1, t11])).bind fun l12 =>
    (forB l12 () (m_is_run_b1 moves run)).bind fun r => aftF r fun s18 =>
    .ok (.bl true)))
theorem e_is_run (moves start run : D) : Sim (m_is_run moves start run) (v_is_run [moves, start, run]) (fun r q => q = (r, [])) := by
  unfold m_is_run v_is_run
  refine Sim.noexn (sim_fn (RR := RR0) (os := fun v : D => (v, ([] : List D))) (E := [some moves, some start, some run, none]) rfl rr0 ?_)
  unfold b_is_run
  and_intros
  refine Sim.bind (e_are_wholes run) ?_
  rintro t1 _ rfl
  and_intros
  refine Sim.same fun b2 => ?_
  first | refine Sim.bind (P := fun a b => b = (a, [some moves, some start, some run, none])) (Sim.ite ?_ ?_) ?_ | refine Sim.bindR (P := fun a b => b = (a, [some moves, some start, some run, none])) (Sim.ite ?_ ?_) ?_
  · exact ⟨_, rfl, rfl⟩
  · refine Sim.same fun t3 => ?_
    refine Sim.same fun t4 => ?_
    refine Sim.same fun b5 => ?_
    first | refine Sim.bind (P := fun a b => b = (a, [some moves, some start, some run, none])) (Sim.ite ?_ ?_) ?_ | refine Sim.bindR (P := fun a b => b = (a, [some moves, some start, some run, none])) (Sim.ite ?_ ?_) ?_
    · exact ⟨_, rfl, rfl⟩
    · refine Sim.same fun t6 => ?_
      refine Sim.same fun t7 => ?_
      refine Sim.same fun b8 => ?_
      exact ⟨_, rfl, rfl⟩
    rintro b9 _ rfl
    and_intros
    exact ⟨_, rfl, rfl⟩
  rintro b10 _ rfl
  and_intros
  refine Sim.ite ?_ ?_
  · refine Sim.app ?_
    and_intros
    exact fR rfl
  · refine Sim.app ?_
    and_intros
    refine Sim.app ?_
    and_intros
    refine Sim.same fun t11 => ?_
    refine Sim.same fun l12 => ?_
    refine Sim.bind (sim_forB (P := P_is_run_1 moves run (some start)) (RR := RR0) (fun d s ρ h => ?_) ?_) ?_
    · obtain ⟨u3, rfl⟩ := h; exact e_is_run_b1 ..
    · exact ⟨_, rfl⟩
    intro r fl hfl
    refine sim_aftF hfl (fun s18 ρ h => ?_)
    obtain ⟨u3, rfl⟩ := h
    and_intros
    exact fR rfl
def m_are_ranks (n ranks : D) : Res (D) := noexn (
  (m_are_wholes ranks).bind fun t1 =>
  (opt (truD t1)).bind fun b2 =>
  (if (!b2) = true then (
    .ok (true) : Res (Bool)) else (
    (opt (fLen [ranks])).bind fun t3 =>
    (opt (dNe t3 n)).bind fun t4 =>
    (toB t4).bind fun b5 =>
    .ok (b5) : Res (Bool))).bind fun b6 =>
  if b6 = true then (
    .ok (.bl false))
  else (
    (opt (fMinL [ranks])).bind fun t7 =>
    (opt (dGe t7 (.int (-1)))).bind fun t8 =>
    (nc t8).bind fun _ =>
    .ok t8))
theorem e_are_ranks (n ranks : D) : Sim (m_are_ranks n ranks) (v_are_ranks [n, ranks]) (fun r q => q = (r, [])) := by
  unfold m_are_ranks v_are_ranks
  refine Sim.noexn (sim_fn (RR := RR0) (os := fun v : D => (v, ([] : List D))) (E := [some n, some ranks]) rfl rr0 ?_)
  unfold b_are_ranks
  and_intros
  refine Sim.bind (e_are_wholes ranks) ?_
  rintro t1 _ rfl
  and_intros
  refine Sim.same fun b2 => ?_
  first | refine Sim.bind (P := fun a b => b = (a, [some n, some ranks])) (Sim.ite ?_ ?_) ?_ | refine Sim.bindR (P := fun a b => b = (a, [some n, some ranks])) (Sim.ite ?_ ?_) ?_
  · exact ⟨_, rfl, rfl⟩
  · refine Sim.same fun t3 => ?_
    refine Sim.same fun t4 => ?_
    refine Sim.same fun b5 => ?_
    exact ⟨_, rfl, rfl⟩
  rintro b6 _ rfl
  and_intros
  refine Sim.ite ?_ ?_
  · refine Sim.app ?_
    and_intros
    exact fR rfl
  · refine Sim.app ?_
    and_intros
    refine Sim.app ?_
    and_intros
    refine Sim.same fun t7 => ?_
    refine Sim.same fun t8 => ?_
    refine Sim.same fun _ => ?_
    exact fR rfl
abbrev P_shows_ends_1 (ranks : D) (u0 u1 u2 : Option D) (s : Unit) (ρ : VL.Env) : Prop := ∃ w4 w5, ρ = [u0, u1, u2, some ranks, w4, w5]
def m_shows_ends_b1 (ranks : D) (d : D) (s : Unit) : Res (Stp (Unit) (D)) :=
  (un2 d).bind fun p8 =>
  (opt (dIx ranks p8.1)).bind fun t9 =>
  (opt (dGe t9 (.int 0))).bind fun t10 =>
  (toB t10).bind fun b11 =>
  (if b11 = true then (
      (opt (dIx ranks p8.2)).bind fun t12 =>
      (opt (dLe (.int 0) t12)).bind fun t13 =>
      (toB t13).bind fun b14 =>
      (if b14 = true then (
          (opt (dIx ranks p8.1)).bind fun t15 =>
          (opt (dLt t12 t15)).bind fun t16 =>
          .ok (t16) : Res (D)) else (
          .ok (.bl false) : Res (D))).bind fun t17 =>
      (toB t17).bind fun b18 =>
      .ok (!b18) : Res (Bool)) else (
      .ok (false) : Res (Bool))).bind fun b19 =>
  if b19 = true then (
    .ok (.ret (.bl false)))
  else (
    .ok (.next ()))
theorem e_shows_ends_b1 (ranks : D) (u0 u1 u2 : Option D) (u4 u5 : Option D) (d : D) (s : Unit) : Sim (m_shows_ends_b1 ranks d s) ((opt (bindT (.tup [.name 4, .name 5]) d [u0, u1, u2, some ranks, u4, u5])).bind (sIf (eAnd (eTB (eBin dGe (.ex (eBin dIx (.slot 3) (.slot 4))) (.ex (eC (.int 0))))) (eNot (eTB (eChain dLe dLt (.ex (eC (.int 0))) (.ex (eBin dIx (.slot 3) (.slot 5))) (.ex (eBin dIx (.slot 3) (.slot 4))))))) (sRet (eUp (eC (.bl false)))) sNil)) (QS RR0 (P_shows_ends_1 ranks u0 u1 u2)) := by
  unfold m_shows_ends_b1
  and_intros
  refine Sim.same fun p8 => ?_
  refine Sim.same fun t9 => ?_
  refine Sim.same fun t10 => ?_
  refine Sim.same fun b11 => ?_
  first | refine Sim.bind (P := fun a b => b = (a, [u0, u1, u2, some ranks, some p8.1, some p8.2])) (Sim.ite ?_ ?_) ?_ | refine Sim.bindR (P := fun a b => b = (a, [u0, u1, u2, some ranks, some p8.1, some p8.2])) (Sim.ite ?_ ?_) ?_
  · refine Sim.same fun t12 => ?_
    refine Sim.same fun t13 => ?_
    refine Sim.same fun b14 => ?_
    first | refine Sim.bind (P := fun a b => b = (a, [u0, u1, u2, some ranks, some p8.1, some p8.2])) (Sim.ite ?_ ?_) ?_ | refine Sim.bindR (P := fun a b => b = (a, [u0, u1, u2, some ranks, some p8.1, some p8.2])) (Sim.ite ?_ ?_) ?_
    · refine Sim.same fun t15 => ?_
      refine Sim.same fun t16 => ?_
      exact ⟨_, rfl, rfl⟩
    · exact ⟨_, rfl, rfl⟩
    rintro t17 _ rfl
    and_intros
    refine Sim.same fun b18 => ?_
    exact ⟨_, rfl, rfl⟩
  · exact ⟨_, rfl, rfl⟩
  rintro b19 _ rfl
  and_intros
  refine Sim.ite ?_ ?_
  · refine Sim.app ?_
    and_intros
    exact fSr rfl
  · refine Sim.app ?_
    and_intros
    exact fSn ⟨_, _, rfl⟩
def m_shows_ends (n moves start ranks : D) : Res (D) := noexn (
  (m_are_ranks n ranks).bind fun t1 =>
  (opt (truD t1)).bind fun b2 =>
  (if (!b2) = true then (
    .ok (true) : Res (Bool)) else (
    (opt (dIx ranks start)).bind fun t3 =>
    (opt (dLt t3 (.int 0))).bind fun t4 =>
    (toB t4).bind fun b5 =>
    .ok (b5) : Res (Bool))).bind fun b6 =>
  if b6 = true then (
    .ok (.bl false))
  else (
    (opt (itD moves)).bind fun l7 =>
    (forB l7 () (m_shows_ends_b1 ranks)).bind fun r => aftF r fun s20 =>
    .ok (.bl true)))
theorem e_shows_ends (n moves start ranks : D) : Sim (m_shows_ends n moves start ranks) (v_shows_ends [n, moves, start, ranks]) (fun r q => q = (r, [])) := by
  unfold m_shows_ends v_shows_ends
  refine Sim.noexn (sim_fn (RR := RR0) (os := fun v : D => (v, ([] : List D))) (E := [some n, some moves, some start, some ranks, none, none]) rfl rr0 ?_)
  unfold b_shows_ends
  and_intros
  refine Sim.bind (e_are_ranks n ranks) ?_
  rintro t1 _ rfl
  and_intros
  refine Sim.same fun b2 => ?_
  first | refine Sim.bind (P := fun a b => b = (a, [some n, some moves, some start, some ranks, none, none])) (Sim.ite ?_ ?_) ?_ | refine Sim.bindR (P := fun a b => b = (a, [some n, some moves, some start, some ranks, none, none])) (Sim.ite ?_ ?_) ?_
  · exact ⟨_, rfl, rfl⟩
  · refine Sim.same fun t3 => ?_
    refine Sim.same fun t4 => ?_
    refine Sim.same fun b5 => ?_
    exact ⟨_, rfl, rfl⟩
  rintro b6 _ rfl
  and_intros
  refine Sim.ite ?_ ?_
  · refine Sim.app ?_
    and_intros
    exact fR rfl
  · refine Sim.app ?_
    and_intros
    refine Sim.app ?_
    and_intros
    refine Sim.same fun l7 => ?_
    refine Sim.bind (sim_forB (P := P_shows_ends_1 ranks (some n) (some moves) (some start)) (RR := RR0) (fun d s ρ h => ?_) ?_) ?_
    · obtain ⟨u4, u5, rfl⟩ := h; exact e_shows_ends_b1 ..
    · exact ⟨_, _, rfl⟩
    intro r fl hfl
    refine sim_aftF hfl (fun s20 ρ h => ?_)
    obtain ⟨u4, u5, rfl⟩ := h
    and_intros
    exact fR rfl
def m_shows_round (n moves start stem loop : D) : Res (D) := noexn (
  (m_is_run moves start stem).bind fun t1 =>
  (opt (truD t1)).bind fun b2 =>
  (if (!b2) = true then (
    .ok (true) : Res (Bool)) else (
    (opt (dIx stem (.int (-1)))).bind fun t3 =>
    (m_is_run moves t3 loop).bind fun t4 =>
    (opt (truD t4)).bind fun b5 =>
    .ok (!b5) : Res (Bool))).bind fun b6 =>
  if b6 = true then (
    .ok (.bl false))
  else (
    (opt (fLen [loop])).bind fun t7 =>
    (opt (dGt t7 (.int 1))).bind fun t8 =>
    (toB t8).bind fun b9 =>
    (if b9 = true then (
        (opt (dIx loop (.int (-1)))).bind fun t10 =>
        (opt (dIx stem (.int (-1)))).bind fun t11 =>
        (opt (dEq t10 t11)).bind fun t12 =>
        .ok (t12) : Res (D)) else (
        .ok (.bl false) : Res (D))).bind fun t13 =>
    (nc t13).bind fun _ =>
    .ok t13))
theorem e_shows_round (n moves start stem loop : D) : Sim (m_shows_round n moves start stem loop) (v_shows_round [n, moves, start, stem, loop]) (fun r q => q = (r, [])) := by
  unfold m_shows_round v_shows_round
  refine Sim.noexn (sim_fn (RR := RR0) (os := fun v : D => (v, ([] : List D))) (E := [some n, some moves, some start, some stem, some loop]) rfl rr0 ?_)
  unfold b_shows_round
  and_intros
  refine Sim.bind (e_is_run moves start stem) ?_
  rintro t1 _ rfl
  and_intros
  refine Sim.same fun b2 => ?_
  first | refine Sim.bind (P := fun a b => b = (a, [some n, some moves, some start, some stem, some loop])) (Sim.ite ?_ ?_) ?_ | refine Sim.bindR (P := fun a b => b = (a, [some n, some moves, some start, some stem, some loop])) (Sim.ite ?_ ?_) ?_
  · exact ⟨_, rfl, rfl⟩
  · refine Sim.same fun t3 => ?_
    refine Sim.bind (e_is_run moves t3 loop) ?_
    rintro t4 _ rfl
    and_intros
    refine Sim.same fun b5 => ?_
    exact ⟨_, rfl, rfl⟩
  rintro b6 _ rfl
  and_intros
  refine Sim.ite ?_ ?_
  · refine Sim.app ?_
    and_intros
    exact fR rfl
  · refine Sim.app ?_
    and_intros
    refine Sim.app ?_
    and_intros
    refine Sim.same fun t7 => ?_
    refine Sim.same fun t8 => ?_
    refine Sim.same fun b9 => ?_
    first | refine Sim.bind (P := fun a b => b = (a, [some n, some moves, some start, some stem, some loop])) (Sim.ite ?_ ?_) ?_ | refine Sim.bindR (P := fun a b => b = (a, [some n, some moves, some start, some stem, some loop])) (Sim.ite ?_ ?_) ?_
    · refine Sim.same fun t10 => ?_
      refine Sim.same fun t11 => ?_
      refine Sim.same fun t12 => ?_
      exact ⟨_, rfl, rfl⟩
    · exact ⟨_, rfl, rfl⟩
    rintro t13 _ rfl
    and_intros
    refine Sim.same fun _ => ?_
    exact fR rfl
def m__law_feed (script : D) : Res (D) := noexn (
  (opt (fList [script])).bind fun t1 =>
  .ok (.lst [t1, .int 0, .int 0, .int 1]))
theorem e__law_feed (script : D) : Sim (m__law_feed script) (v__law_feed [script]) (fun r q => q = (r, [])) := by
  unfold m__law_feed v__law_feed
  refine Sim.noexn (sim_fn (RR := RR0) (os := fun v : D => (v, ([] : List D))) (E := [some script]) rfl rr0 ?_)
  unfold b__law_feed
  and_intros
  refine Sim.same fun t1 => ?_
  exact fR rfl
def m__law_is_whole (x : D) : Res (D) := noexn (
  (opt (fIsi "int" [x, .non])).bind fun t1 =>
  (toB t1).bind fun b2 =>
  (if b2 = true then (
    (opt (fIsi "bool" [x, .non])).bind fun t3 =>
    (toB t3).bind fun b4 =>
    .ok (.bl (!b4)) : Res (D)) else (
    .ok (.bl false) : Res (D))).bind fun t5 =>
  (nc t5).bind fun _ =>
  .ok t5)
theorem e__law_is_whole (x : D) : Sim (m__law_is_whole x) (v__law_is_whole [x]) (fun r q => q = (r, [])) := by
  unfold m__law_is_whole v__law_is_whole
  refine Sim.noexn (sim_fn (RR := RR0) (os := fun v : D => (v, ([] : List D))) (E := [some x]) rfl rr0 ?_)
  unfold b__law_is_whole
  and_intros
  refine Sim.same fun t1 => ?_
  refine Sim.same fun b2 => ?_
  first | refine Sim.bind (P := fun a b => b = (a, [some x])) (Sim.ite ?_ ?_) ?_ | refine Sim.bindR (P := fun a b => b = (a, [some x])) (Sim.ite ?_ ?_) ?_
  · refine Sim.same fun t3 => ?_
    refine Sim.same fun b4 => ?_
    exact ⟨_, rfl, rfl⟩
  · exact ⟨_, rfl, rfl⟩
  rintro t5 _ rfl
  and_intros
  refine Sim.same fun _ => ?_
  exact fR rfl
def m__law_same (told due : D) : Res (D) := noexn (
  (opt (fIsi "bool" [told, .non])).bind fun t1 =>
  (toB t1).bind fun b2 =>
  (if b2 = true then (
    (opt (dEq told due)).bind fun t3 =>
    .ok (t3) : Res (D)) else (
    .ok (.bl false) : Res (D))).bind fun t4 =>
  (nc t4).bind fun _ =>
  .ok t4)
theorem e__law_same (told due : D) : Sim (m__law_same told due) (v__law_same [told, due]) (fun r q => q = (r, [])) := by
  unfold m__law_same v__law_same
  refine Sim.noexn (sim_fn (RR := RR0) (os := fun v : D => (v, ([] : List D))) (E := [some told, some due]) rfl rr0 ?_)
  unfold b__law_same
  and_intros
  refine Sim.same fun t1 => ?_
  refine Sim.same fun b2 => ?_
  first | refine Sim.bind (P := fun a b => b = (a, [some told, some due])) (Sim.ite ?_ ?_) ?_ | refine Sim.bindR (P := fun a b => b = (a, [some told, some due])) (Sim.ite ?_ ?_) ?_
  · refine Sim.same fun t3 => ?_
    exact ⟨_, rfl, rfl⟩
  · exact ⟨_, rfl, rfl⟩
  rintro t4 _ rfl
  and_intros
  refine Sim.same fun _ => ?_
  exact fR rfl
abbrev P__law_names_1 (u1 : Option D) (s : D × D) (ρ : VL.Env) : Prop := ∃ w3 w4, ρ = [some s.1, u1, some s.2, w3, w4]
def m__law_names_b1 (d : D) (s : D × D) : Res (D × D) :=
  (opt (dAdd d (.int 1))).bind fun t2 =>
  (ckB (cellD s.1)).bind fun _ =>
  (mDraw s.1 t2).bind fun r3 =>
  (toI r3.1).bind fun i4 =>
  (opt (dSlice s.2 none (some i4))).bind fun t5 =>
  (opt (dAdd t5 (.lst [d]))).bind fun t6 =>
  (toI r3.1).bind fun i7 =>
  (opt (dSlice s.2 (some i7) none)).bind fun t8 =>
  (opt (dAdd t6 t8)).bind fun names9 =>
  .ok (r3.2, names9)
theorem e__law_names_b1 (u1 : Option D) (u3 u4 : Option D) (d : D) (s : D × D) : Sim (m__law_names_b1  d s) ((opt (bindT (.name 3) d [some s.1, u1, some s.2, u3, u4])).bind (sSeq (sSet 4 (eFn [.io, .brw] v__law_draw [.io 0, .bor (.ex (eBin dAdd (.slot 3) (.ex (eC (.int 1)))))])) (sSet 2 (eBin dAdd (.ex (eBin dAdd (.ex (eSl (.slot 2) none (some (eVar 4)))) (.ex (eLst [.val (eVar 3)])))) (.ex (eSl (.slot 2) (some (eVar 4)) none)))))) (QN (P__law_names_1 u1)) := by
  unfold m__law_names_b1
  and_intros
  refine Sim.same fun t2 => ?_
  refine Sim.same fun _ => ?_
  refine Sim.bind (sim_draw s.1 t2) ?_
  rintro r3 _ rfl
  and_intros
  refine Sim.app ?_
  and_intros
  refine Sim.same fun i4 => ?_
  refine Sim.same fun t5 => ?_
  refine Sim.same fun t6 => ?_
  refine Sim.same fun i7 => ?_
  refine Sim.same fun t8 => ?_
  refine Sim.same fun names9 => ?_
  exact fNn ⟨_, _, rfl⟩
def m__law_names (feed n : D) : Res (D × D) := noexn (
  (opt (rngOf [n])).bind fun l1 =>
  (forN l1 (feed, .lst []) m__law_names_b1).bind fun s10 =>
  .ok (s10.2, s10.1))
theorem e__law_names (feed n : D) : Sim (m__law_names feed n) (v__law_names [feed, n]) (fun r q => q = (r.1, [r.2])) := by
  unfold m__law_names v__law_names
  refine Sim.noexn (sim_fn (RR := (RR1 0)) (os := fun v : D × D => (v.1, [v.2])) (E := [some feed, some n, none, none, none]) rfl rr1 ?_)
  unfold b__law_names
  and_intros
  refine Sim.app ?_
  and_intros
  refine Sim.same fun l1 => ?_
  refine Sim.bind (sim_forN (P := P__law_names_1 (some n)) (fun d s ρ h => ?_) ?_) ?_
  · obtain ⟨u3, u4, rfl⟩ := h; exact e__law_names_b1 ..
  · exact ⟨_, _, rfl⟩
  intro s10 fl hfl
  refine sim_aftN hfl (fun ρ h => ?_)
  obtain ⟨u3, u4, rfl⟩ := h
  and_intros
  exact fR ⟨rfl, rfl⟩
def m__law_course_c2 (d : D) (s : D) : Res (D × D) :=
  (ckB (cellD s)).bind fun _ =>
  (mDraw s (.int 2)).bind fun r10 =>
  (opt (dIx (.str [104, 112]) r10.1)).bind fun t11 =>
  .ok (t11, r10.2)
theorem e__law_course_c2 (u1 u2 u3 u4 u5 u6 u8 u9 : Option D) (d : D) (s : D) : Sim (m__law_course_c2 d s) (lcIt [7] (.name 7) tYesE (eBin dIx (.ex (eC (.str [104, 112]))) (.ex (eFn [.io, .brw] v__law_draw [.io 0, .bor (.ex (eC (.int 2)))]))) d [some s, u1, u2, u3, u4, u5, u6, none, u8, u9]) (fun a b => b.1 = some a.1 ∧ b.2 = [some a.2, u1, u2, u3, u4, u5, u6, none, u8, u9]) := by
  unfold m__law_course_c2 lcIt
  and_intros
  refine Sim.same fun _ => ?_
  refine Sim.bind (sim_draw s (.int 2)) ?_
  rintro r10 _ rfl
  and_intros
  refine Sim.same fun t11 => ?_
  exact ⟨_, rfl, rfl, rfl⟩
abbrev P__law_course_3 (n names forward : D) (u2 u3 : Option D) (s : D × D) (ρ : VL.Env) : Prop := ∃ w7 w8 w9, ρ = [some s.1, some n, u2, u3, some names, some forward, some s.2, w7, w8, w9]
def m__law_course_j4 (feed names forward moves i j : D) : Res (D × D) :=
  (opt (dNe i j)).bind fun t24 =>
  (toB t24).bind fun b25 =>
  (if b25 = true then (
      .ok (true) : Res (Bool)) else (
      (opt (truD forward)).bind fun b26 =>
      .ok (!b26) : Res (Bool))).bind fun b27 =>
  if b27 = true then (
    (toL moves).bind fun l28 =>
    (opt (dIx names i)).bind fun t29 =>
    (opt (dIx names j)).bind fun t30 =>
    (toL moves).bind fun l31 =>
    (opt (mAppend l31 [.tup [t29, t30]])).bind fun r32 =>
    .ok (feed, .lst r32.1))
  else (
    .ok (feed, moves))
theorem e__law_course_j4 (feed n names forward moves i j : D) (u2 u3 u7 : Option D) : Sim (m__law_course_j4 feed names forward moves i j) ((sIf (eOr (eTB (eBin dNe (.slot 8) (.slot 9))) (eNot (eTru (.slot 5)))) (sExpr (eMut 6 mAppend [.val (eTup [.val (eBin dIx (.slot 4) (.slot 8)), .val (eBin dIx (.slot 4) (.slot 9))])])) sNil) [some feed, some n, u2, u3, some names, some forward, some moves, u7, some i, some j]) (QN (P__law_course_3 n names forward u2 u3)) := by
  unfold m__law_course_j4
  and_intros
  refine Sim.same fun t24 => ?_
  refine Sim.same fun b25 => ?_
  first | refine Sim.bind (P := fun a b => b = (a, [some feed, some n, u2, u3, some names, some forward, some moves, u7, some i, some j])) (Sim.ite ?_ ?_) ?_ | refine Sim.bindR (P := fun a b => b = (a, [some feed, some n, u2, u3, some names, some forward, some moves, u7, some i, some j])) (Sim.ite ?_ ?_) ?_
  · exact ⟨_, rfl, rfl⟩
  · refine Sim.same fun b26 => ?_
    exact ⟨_, rfl, rfl⟩
  rintro b27 _ rfl
  and_intros
  refine Sim.ite ?_ ?_
  · refine Sim.app ?_
    and_intros
    refine Sim.same fun l28 => ?_
    refine Sim.same fun t29 => ?_
    refine Sim.same fun t30 => ?_
    refine Sim.same fun l31 => ?_
    refine Sim.same fun r32 => ?_
    exact fNn ⟨_, _, _, rfl⟩
  · refine Sim.app ?_
    and_intros
    exact fNn ⟨_, _, _, rfl⟩
def m__law_course_b3 (n names forward : D) (d : D) (s : D × D) : Res (D × D) :=
  (ckB (cellD s.1)).bind fun _ =>
  (mDraw s.1 n).bind fun r18 =>
  (ckB (cellD r18.2)).bind fun _ =>
  (mDraw r18.2 n).bind fun r19 =>
  (opt (truD forward)).bind fun b20 =>
  (if b20 = true then (
      (opt (dGt r18.1 r19.1)).bind fun t21 =>
      (toB t21).bind fun b22 =>
      .ok (b22) : Res (Bool)) else (
      .ok (false) : Res (Bool))).bind fun b23 =>
  if b23 = true then (
    m__law_course_j4 r19.2 names forward s.2 r19.1 r18.1)
  else (
    m__law_course_j4 r19.2 names forward s.2 r18.1 r19.1)
theorem e__law_course_b3 (n names forward : D) (u2 u3 : Option D) (u7 u8 u9 : Option D) (d : D) (s : D × D) : Sim (m__law_course_b3 n names forward d s) ((opt (bindT (.name 7) d [some s.1, some n, u2, u3, some names, some forward, some s.2, u7, u8, u9])).bind (sSeq (sSet 8 (eFn [.io, .brw] v__law_draw [.io 0, .bor (.slot 1)])) (sSeq (sSet 9 (eFn [.io, .brw] v__law_draw [.io 0, .bor (.slot 1)])) (sSeq (sIf (eAnd (eTru (.slot 5)) (eTB (eBin dGt (.slot 8) (.slot 9)))) (sPar 8 9 [.val (eVar 9), .val (eVar 8)]) sNil) (sIf (eOr (eTB (eBin dNe (.slot 8) (.slot 9))) (eNot (eTru (.slot 5)))) (sExpr (eMut 6 mAppend [.val (eTup [.val (eBin dIx (.slot 4) (.slot 8)), .val (eBin dIx (.slot 4) (.slot 9))])])) sNil))))) (QN (P__law_course_3 n names forward u2 u3)) := by
  unfold m__law_course_b3
  and_intros
  refine Sim.same fun _ => ?_
  refine Sim.bind (sim_draw s.1 n) ?_
  rintro r18 _ rfl
  and_intros
  refine Sim.app ?_
  and_intros
  refine Sim.same fun _ => ?_
  refine Sim.bind (sim_draw r18.2 n) ?_
  rintro r19 _ rfl
  and_intros
  refine Sim.app ?_
  and_intros
  refine Sim.same fun b20 => ?_
  first | refine Sim.bind (P := fun a b => b = (a, [some r19.2, some n, u2, u3, some names, some forward, some s.2, some d, some r18.1, some r19.1])) (Sim.ite ?_ ?_) ?_ | refine Sim.bindR (P := fun a b => b = (a, [some r19.2, some n, u2, u3, some names, some forward, some s.2, some d, some r18.1, some r19.1])) (Sim.ite ?_ ?_) ?_
  · refine Sim.same fun t21 => ?_
    refine Sim.same fun b22 => ?_
    exact ⟨_, rfl, rfl⟩
  · exact ⟨_, rfl, rfl⟩
  rintro b23 _ rfl
  and_intros
  refine Sim.ite ?_ ?_
  · refine Sim.app ?_
    and_intros
    exact Sim.app (e__law_course_j4 ..)
  · refine Sim.app ?_
    and_intros
    exact Sim.app (e__law_course_j4 ..)
def m__law_course_j1 (feed n many : D) : Res (D × D) :=
  (opt (rngOf [n])).bind fun l9 =>
  (lenG l9).bind fun _ =>
  (mMapS l9 (feed) m__law_course_c2).bind fun l12 =>
  (opt (fJoin [] [.lst l12.1])).bind fun owners13 =>
  (ckB (cellD l12.2)).bind fun _ =>
  (m__law_names l12.2 n).bind fun r14 =>
  (ckB (cellD r14.2)).bind fun _ =>
  (mDraw r14.2 (.int 2)).bind fun r15 =>
  (opt (dEq r15.1 (.int 0))).bind fun forward16 =>
  (opt (rngOf [many])).bind fun l17 =>
  (forN l17 (r15.2, .lst []) (m__law_course_b3 n r14.1 forward16)).bind fun s33 =>
  .ok (.tup [n, owners13, s33.2], s33.1)
theorem e__law_course_j1 (feed n many : D) (u3 u4 u5 u6 u7 u8 u9 : Option D) : Sim (m__law_course_j1 feed n many) ((sSeq (sSet 3 (eCall (fJoin []) [.bor (.ex (eLC (eRng [.val (eVar 1)]) [7] (.name 7) tYesE (eBin dIx (.ex (eC (.str [104, 112]))) (.ex (eFn [.io, .brw] v__law_draw [.io 0, .bor (.ex (eC (.int 2)))])))))])) (sSeq (sSet 4 (eFn [.io, .fz] v__law_names [.io 0, .val (eVar 1)])) (sSeq (sSet 5 (eBin dEq (.ex (eFn [.io, .brw] v__law_draw [.io 0, .bor (.ex (eC (.int 2)))])) (.ex (eC (.int 0))))) (sSeq (sSet 6 (eLst [])) (sSeq (sFor (eRng [.val (eVar 2)]) (.name 7) (sSeq (sSet 8 (eFn [.io, .brw] v__law_draw [.io 0, .bor (.slot 1)])) (sSeq (sSet 9 (eFn [.io, .brw] v__law_draw [.io 0, .bor (.slot 1)])) (sSeq (sIf (eAnd (eTru (.slot 5)) (eTB (eBin dGt (.slot 8) (.slot 9)))) (sPar 8 9 [.val (eVar 9), .val (eVar 8)]) sNil) (sIf (eOr (eTB (eBin dNe (.slot 8) (.slot 9))) (eNot (eTru (.slot 5)))) (sExpr (eMut 6 mAppend [.val (eTup [.val (eBin dIx (.slot 4) (.slot 8)), .val (eBin dIx (.slot 4) (.slot 9))])])) sNil))))) (sRet (eUp (eTup [.val (eVar 1), .val (eVar 3), .val (eVar 6)])))))))) [some feed, some n, some many, u3, u4, u5, u6, u7, u8, u9]) (QR (RR1 0)) := by
  unfold m__law_course_j1
  and_intros
  refine Sim.same fun l9 => ?_
  refine Sim.same fun _ => ?_
  refine Sim.bind (sim_mapS (P := fun z ρ => ρ = [some z, some n, some many, u3, u4, u5, u6, none, u8, u9]) (fun d s ρ h => by subst h; exact e__law_course_c2 ..) rfl) ?_
  rintro l12 ⟨_, _⟩ ⟨rfl, rfl⟩
  and_intros
  refine Sim.same fun owners13 => ?_
  refine Sim.app ?_
  and_intros
  refine Sim.same fun _ => ?_
  refine Sim.bind (e__law_names l12.2 n) ?_
  rintro r14 _ rfl
  and_intros
  refine Sim.app ?_
  and_intros
  refine Sim.same fun _ => ?_
  refine Sim.bind (sim_draw r14.2 (.int 2)) ?_
  rintro r15 _ rfl
  and_intros
  refine Sim.same fun forward16 => ?_
  refine Sim.app ?_
  and_intros
  refine Sim.app ?_
  and_intros
  refine Sim.same fun l17 => ?_
  refine Sim.bind (sim_forN (P := P__law_course_3 n r14.1 forward16 (some many) (some owners13)) (fun d s ρ h => ?_) ?_) ?_
  · obtain ⟨u7, u8, u9, rfl⟩ := h; exact e__law_course_b3 ..
  · exact ⟨_, _, _, rfl⟩
  intro s33 fl hfl
  refine sim_aftN hfl (fun ρ h => ?_)
  obtain ⟨u7, u8, u9, rfl⟩ := h
  and_intros
  exact fR ⟨rfl, rfl⟩
def m__law_course (feed : D) : Res (D × D) := noexn (
  (ckB (cellD feed)).bind fun _ =>
  (mDraw feed (.int 7)).bind fun r1 =>
  (opt (dAdd (.int 1) r1.1)).bind fun n2 =>
  (opt (dMul (.int 2) n2)).bind fun t3 =>
  (opt (dAdd t3 (.int 2))).bind fun t4 =>
  (ckB (cellD r1.2)).bind fun _ =>
  (mDraw r1.2 t4).bind fun r5 =>
  (ckB (cellD r5.2)).bind fun _ =>
  (mDraw r5.2 (.int 8)).bind fun r6 =>
  (opt (dEq r6.1 (.int 0))).bind fun t7 =>
  (toB t7).bind fun b8 =>
  if b8 = true then (
    (ckB (cellD r6.2)).bind fun _ =>
    (mDraw r6.2 (.int 9)).bind fun r34 =>
    (opt (dAdd (.int 12) r34.1)).bind fun n35 =>
    (ckB (cellD r34.2)).bind fun _ =>
    (mDraw r34.2 (.int 41)).bind fun r36 =>
    (opt (dAdd (.int 20) r36.1)).bind fun many37 =>
    m__law_course_j1 r36.2 n35 many37)
  else (
    m__law_course_j1 r6.2 n2 r5.1))
theorem e__law_course (feed : D) : Sim (m__law_course feed) (v__law_course [feed]) (fun r q => q = (r.1, [r.2])) := by
  unfold m__law_course v__law_course
  refine Sim.noexn (sim_fn (RR := (RR1 0)) (os := fun v : D × D => (v.1, [v.2])) (E := [some feed, none, none, none, none, none, none, none, none, none]) rfl rr1 ?_)
  unfold b__law_course
  and_intros
  refine Sim.same fun _ => ?_
  refine Sim.bind (sim_draw feed (.int 7)) ?_
  rintro r1 _ rfl
  and_intros
  refine Sim.same fun n2 => ?_
  refine Sim.app ?_
  and_intros
  refine Sim.same fun t3 => ?_
  refine Sim.same fun t4 => ?_
  refine Sim.same fun _ => ?_
  refine Sim.bind (sim_draw r1.2 t4) ?_
  rintro r5 _ rfl
  and_intros
  refine Sim.app ?_
  and_intros
  refine Sim.same fun _ => ?_
  refine Sim.bind (sim_draw r5.2 (.int 8)) ?_
  rintro r6 _ rfl
  and_intros
  refine Sim.same fun t7 => ?_
  refine Sim.same fun b8 => ?_
  refine Sim.ite ?_ ?_
  · refine Sim.app ?_
    and_intros
    refine Sim.same fun _ => ?_
    refine Sim.bind (sim_draw r6.2 (.int 9)) ?_
    rintro r34 _ rfl
    and_intros
    refine Sim.same fun n35 => ?_
    refine Sim.app ?_
    and_intros
    refine Sim.same fun _ => ?_
    refine Sim.bind (sim_draw r34.2 (.int 41)) ?_
    rintro r36 _ rfl
    and_intros
    refine Sim.same fun many37 => ?_
    exact Sim.app (e__law_course_j1 ..)
  · refine Sim.app ?_
    and_intros
    exact Sim.app (e__law_course_j1 ..)
def m__law_are_wholes_c1 (d : D) : Res (Option D) :=
  (m__law_is_whole d).bind fun t4 =>
  (opt (truD t4)).bind fun b5 =>
  if b5 = true then (
    .ok (some d))
  else .ok none
theorem e__law_are_wholes_c1 (u0 : Option D) (d : D) : Sim (m__law_are_wholes_c1 d) (lcIt [1] (.name 1) (eTru (.ex (eFn [.brw] v__law_is_whole [.bor (.slot 1)]))) (eVar 1) d [u0, none]) (fun a b => b = (a, [u0, none])) := by
  unfold m__law_are_wholes_c1 lcIt
  and_intros
  refine Sim.bind (e__law_is_whole d) ?_
  rintro t4 _ rfl
  and_intros
  refine Sim.same fun b5 => ?_
  refine Sim.ite ?_ ?_
  · exact ⟨_, rfl, rfl⟩
  · exact ⟨_, rfl, rfl⟩
def m__law_are_wholes (row : D) : Res (D) := noexn (
  (opt (fIsi "list" [row, .non])).bind fun t1 =>
  (toB t1).bind fun b2 =>
  (if b2 = true then (
    (opt (itD row)).bind fun l3 =>
    (lenG l3).bind fun _ =>
    (mFil l3 m__law_are_wholes_c1).bind fun l6 =>
    (opt (fLen [.lst l6])).bind fun t7 =>
    (opt (fLen [row])).bind fun t8 =>
    (opt (dEq t7 t8)).bind fun t9 =>
    .ok (t9) : Res (D)) else (
    .ok (.bl false) : Res (D))).bind fun t10 =>
  (nc t10).bind fun _ =>
  .ok t10)
theorem e__law_are_wholes (row : D) : Sim (m__law_are_wholes row) (v__law_are_wholes [row]) (fun r q => q = (r, [])) := by
  unfold m__law_are_wholes v__law_are_wholes
  refine Sim.noexn (sim_fn (RR := RR0) (os := fun v : D => (v, ([] : List D))) (E := [some row, none]) rfl rr0 ?_)
  unfold b__law_are_wholes
  and_intros
  refine Sim.same fun t1 => ?_
  refine Sim.same fun b2 => ?_
  first | refine Sim.bind (P := fun a b => b = (a, [some row, none])) (Sim.ite ?_ ?_) ?_ | refine Sim.bindR (P := fun a b => b = (a, [some row, none])) (Sim.ite ?_ ?_) ?_
  · refine Sim.same fun l3 => ?_
    refine Sim.same fun _ => ?_
    refine Sim.bind (sim_fil (fun d => e__law_are_wholes_c1 ..)) ?_
    rintro l6 _ rfl
    and_intros
    refine Sim.same fun t7 => ?_
    refine Sim.same fun t8 => ?_
    refine Sim.same fun t9 => ?_
    exact ⟨_, rfl, rfl⟩
  · exact ⟨_, rfl, rfl⟩
  rintro t10 _ rfl
  and_intros
  refine Sim.same fun _ => ?_
  exact fR rfl
abbrev P__law_is_run_1 (moves run : D) (u1 : Option D) (s : Unit) (ρ : VL.Env) : Prop := ∃ w3, ρ = [some moves, u1, some run, w3]
def m__law_is_run_b1 (moves run : D) (d : D) (s : Unit) : Res (Stp (Unit) (D)) :=
  (opt (dSub d (.int 1))).bind fun t13 =>
  (opt (dIx run t13)).bind fun t14 =>
  (opt (dIx run d)).bind fun t15 =>
  (opt (dNotIn (.tup [t14, t15]) moves)).bind fun t16 =>
  (toB t16).bind fun b17 =>
  if b17 = true then (
    .ok (.ret (.bl false)))
  else (
    .ok (.next ()))
theorem e__law_is_run_b1 (moves run : D) (u1 : Option D) (u3 : Option D) (d : D) (s : Unit) : Sim (m__law_is_run_b1 moves run d s) ((opt (bindT (.name 3) d [some moves, u1, some run, u3])).bind (sIf (eTB (eBin dNotIn (.ex (eTup [.val (eBin dIx (.slot 2) (.ex (eBin dSub (.slot 3) (.ex (eC (.int 1)))))), .val (eBin dIx (.slot 2) (.slot 3))])) (.slot 0))) (sRet (eUp (eC (.bl false)))) sNil)) (QS RR0 (P__law_is_run_1 moves run u1)) := by
  unfold m__law_is_run_b1
  and_intros
  refine Sim.same fun t13 => ?_
  refine Sim.same fun t14 => ?_
  refine Sim.same fun t15 => ?_
  refine Sim.same fun t16 => ?_
  refine Sim.same fun b17 => ?_
  refine Sim.ite ?_ ?_
  · refine Sim.app ?_
    and_intros
    exact fSr rfl
  · refine Sim.app ?_
    and_intros
    exact fSn ⟨_, rfl⟩
def m__law_is_run (moves start run : D) : Res (D) := noexn (
  (m__law_are_wholes run).bind fun t1 =>
  (opt (truD t1)).bind fun b2 =>
  (if (!b2) = true then (
    .ok (true) : Res (Bool)) else (
    (opt (fLen [run])).bind fun t3 =>
    (opt (dEq t3 (.int 0))).bind fun t4 =>
    (toB t4).bind fun b5 =>
    (if b5 = true then (
        .ok (true) : Res (Bool)) else (
        (opt (dIx run (.int 0))).bind fun t6 =>
        (opt (dNe t6 start)).bind fun t7 =>
        (toB t7).bind fun b8 =>
        .ok (b8) : Res (Bool))).bind fun b9 =>
    .ok (b9) : Res (Bool))).bind fun b10 =>
  if b10 = true then (
    .ok (.bl false))
  else (
    (opt (fLen [run])).bind fun t11 =>
    (opt (rngOf [.int 1, t11])).bind fun l12 =>
    (forB l12 () (m__law_is_run_b1 moves run)).bind fun r => aftF r fun s18 =>
    .ok (.bl true)))
theorem e__law_is_run (moves start run : D) : Sim (m__law_is_run moves start run) (v__law_is_run [moves, start, run]) (fun r q => q = (r, [])) := by
  unfold m__law_is_run v__law_is_run
  refine Sim.noexn (sim_fn (RR := RR0) (os := fun v : D => (v, ([] : List D))) (E := [some moves, some start, some run, none]) rfl rr0 ?_)
  unfold b__law_is_run
  and_intros
  refine Sim.bind (e__law_are_wholes run) ?_
  rintro t1 _ rfl
  and_intros
  refine Sim.same fun b2 => ?_
  first | refine Sim.bind (P := fun a b => b = (a, [some moves, some start, some run, none])) (Sim.ite ?_ ?_) ?_ | refine Sim.bindR (P := fun a b => b = (a, [some moves, some start, some run, none])) (Sim.ite ?_ ?_) ?_
  · exact ⟨_, rfl, rfl⟩
  · refine Sim.same fun t3 => ?_
    refine Sim.same fun t4 => ?_
    refine Sim.same fun b5 => ?_
    first | refine Sim.bind (P := fun a b => b = (a, [some moves, some start, some run, none])) (Sim.ite ?_ ?_) ?_ | refine Sim.bindR (P := fun a b => b = (a, [some moves, some start, some run, none])) (Sim.ite ?_ ?_) ?_
    · exact ⟨_, rfl, rfl⟩
    · refine Sim.same fun t6 => ?_
      refine Sim.same fun t7 => ?_
      refine Sim.same fun b8 => ?_
      exact ⟨_, rfl, rfl⟩
    rintro b9 _ rfl
    and_intros
    exact ⟨_, rfl, rfl⟩
  rintro b10 _ rfl
  and_intros
  refine Sim.ite ?_ ?_
  · refine Sim.app ?_
    and_intros
    exact fR rfl
  · refine Sim.app ?_
    and_intros
    refine Sim.app ?_
    and_intros
    refine Sim.same fun t11 => ?_
    refine Sim.same fun l12 => ?_
    refine Sim.bind (sim_forB (P := P__law_is_run_1 moves run (some start)) (RR := RR0) (fun d s ρ h => ?_) ?_) ?_
    · obtain ⟨u3, rfl⟩ := h; exact e__law_is_run_b1 ..
    · exact ⟨_, rfl⟩
    intro r fl hfl
    refine sim_aftF hfl (fun s18 ρ h => ?_)
    obtain ⟨u3, rfl⟩ := h
    and_intros
    exact fR rfl
abbrev P__law_longest_1 (n moves : D) (u5 u6 : Option D) (s : D) (ρ : VL.Env) : Prop := ∃ w3 w4, ρ = [some n, some moves, some s, w3, w4, u5, u6]
abbrev P__law_longest_2 (moves many : D) (u0 u5 u6 : Option D) (s : D) (ρ : VL.Env) : Prop := ∃ w4, ρ = [u0, some moves, some s, some many, w4, u5, u6]
def m__law_longest_c3 (most many state : D) (d : D) : Res (Option D) :=
  (un2 d).bind fun p10 =>
  (opt (dEq p10.1 state)).bind fun t11 =>
  (toB t11).bind fun b12 =>
  (if b12 = true then (
      (opt (dIx most p10.2)).bind fun t13 =>
      (opt (dSub many (.int 1))).bind fun t14 =>
      (opt (dGe t13 t14)).bind fun t15 =>
      (toB t15).bind fun b16 =>
      .ok (b16) : Res (Bool)) else (
      .ok (false) : Res (Bool))).bind fun b17 =>
  if b17 = true then (
    .ok (some (.int 1)))
  else .ok none
theorem e__law_longest_c3 (most many state : D) (u0 u1 : Option D) (d : D) : Sim (m__law_longest_c3 most many state d) (lcIt [5, 6] (.tup [.name 5, .name 6]) (eAnd (eTB (eBin dEq (.slot 5) (.slot 4))) (eTB (eBin dGe (.ex (eBin dIx (.slot 2) (.slot 6))) (.ex (eBin dSub (.slot 3) (.ex (eC (.int 1)))))))) (eC (.int 1)) d [u0, u1, some most, some many, some state, none, none]) (fun a b => b = (a, [u0, u1, some most, some many, some state, none, none])) := by
  unfold m__law_longest_c3 lcIt
  and_intros
  refine Sim.same fun p10 => ?_
  refine Sim.same fun t11 => ?_
  refine Sim.same fun b12 => ?_
  first | refine Sim.bind (P := fun a b => b = (a, [u0, u1, some most, some many, some state, some p10.1, some p10.2])) (Sim.ite ?_ ?_) ?_ | refine Sim.bindR (P := fun a b => b = (a, [u0, u1, some most, some many, some state, some p10.1, some p10.2])) (Sim.ite ?_ ?_) ?_
  · refine Sim.same fun t13 => ?_
    refine Sim.same fun t14 => ?_
    refine Sim.same fun t15 => ?_
    refine Sim.same fun b16 => ?_
    exact ⟨_, rfl, rfl⟩
  · exact ⟨_, rfl, rfl⟩
  rintro b17 _ rfl
  and_intros
  refine Sim.ite ?_ ?_
  · exact ⟨_, rfl, rfl⟩
  · exact ⟨_, rfl, rfl⟩
def m__law_longest_b2 (moves many : D) (d : D) (s : D) : Res (D) :=
  (opt (dIx s d)).bind fun t5 =>
  (opt (dSub many (.int 1))).bind fun t6 =>
  (opt (dEq t5 t6)).bind fun t7 =>
  (toB t7).bind fun b8 =>
  if b8 = true then (
    (opt (itD moves)).bind fun l9 =>
    (lenG l9).bind fun _ =>
    (mFil l9 (m__law_longest_c3 s many d)).bind fun l18 =>
    (opt (fLen [.lst l18])).bind fun t19 =>
    (opt (dGt t19 (.int 0))).bind fun t20 =>
    (toB t20).bind fun b21 =>
    if b21 = true then (
      (setR s d many).bind fun most22 =>
      .ok (most22))
    else (
      .ok (s)))
  else (
    .ok (s))
theorem e__law_longest_b2 (moves many : D) (u0 u5 u6 : Option D) (u4 : Option D) (d : D) (s : D) : Sim (m__law_longest_b2 moves many d s) ((opt (bindT (.name 4) d [u0, some moves, some s, some many, u4, u5, u6])).bind (sIf (eTB (eBin dEq (.ex (eBin dIx (.slot 2) (.slot 4))) (.ex (eBin dSub (.slot 3) (.ex (eC (.int 1))))))) (sIf (eTB (eBin dGt (.ex (eCall fLen [.bor (.ex (eLC (eIt (eVar 1)) [5, 6] (.tup [.name 5, .name 6]) (eAnd (eTB (eBin dEq (.slot 5) (.slot 4))) (eTB (eBin dGe (.ex (eBin dIx (.slot 2) (.slot 6))) (.ex (eBin dSub (.slot 3) (.ex (eC (.int 1)))))))) (eC (.int 1))))])) (.ex (eC (.int 0))))) (sSetIx 2 (eVar 4) (eVar 3)) sNil) sNil)) (QN (P__law_longest_2 moves many u0 u5 u6)) := by
  unfold m__law_longest_b2
  and_intros
  refine Sim.same fun t5 => ?_
  refine Sim.same fun t6 => ?_
  refine Sim.same fun t7 => ?_
  refine Sim.same fun b8 => ?_
  refine Sim.ite ?_ ?_
  · refine Sim.app ?_
    and_intros
    refine Sim.same fun l9 => ?_
    refine Sim.same fun _ => ?_
    refine Sim.bind (sim_fil (fun d => e__law_longest_c3 ..)) ?_
    rintro l18 _ rfl
    and_intros
    refine Sim.same fun t19 => ?_
    refine Sim.same fun t20 => ?_
    refine Sim.same fun b21 => ?_
    refine Sim.ite ?_ ?_
    · refine Sim.app ?_
      and_intros
      refine Sim.same fun most22 => ?_
      exact fNn ⟨_, rfl⟩
    · refine Sim.app ?_
      and_intros
      exact fNn ⟨_, rfl⟩
  · refine Sim.app ?_
    and_intros
    exact fNn ⟨_, rfl⟩
def m__law_longest_b1 (n moves : D) (d : D) (s : D) : Res (Stp (D) (D)) :=
  (opt (rngOf [n])).bind fun l4 =>
  (forN l4 (s) (m__law_longest_b2 moves d)).bind fun s23 =>
  (opt (dNotIn d s23)).bind fun t24 =>
  (toB t24).bind fun b25 =>
  if b25 = true then (
    .ok (.ret s23))
  else (
    .ok (.next (s23)))
theorem e__law_longest_b1 (n moves : D) (u5 u6 : Option D) (u3 u4 : Option D) (d : D) (s : D) : Sim (m__law_longest_b1 n moves d s) ((opt (bindT (.name 3) d [some n, some moves, some s, u3, u4, u5, u6])).bind (sSeq (sFor (eRng [.val (eVar 0)]) (.name 4) (sIf (eTB (eBin dEq (.ex (eBin dIx (.slot 2) (.slot 4))) (.ex (eBin dSub (.slot 3) (.ex (eC (.int 1))))))) (sIf (eTB (eBin dGt (.ex (eCall fLen [.bor (.ex (eLC (eIt (eVar 1)) [5, 6] (.tup [.name 5, .name 6]) (eAnd (eTB (eBin dEq (.slot 5) (.slot 4))) (eTB (eBin dGe (.ex (eBin dIx (.slot 2) (.slot 6))) (.ex (eBin dSub (.slot 3) (.ex (eC (.int 1)))))))) (eC (.int 1))))])) (.ex (eC (.int 0))))) (sSetIx 2 (eVar 4) (eVar 3)) sNil) sNil)) (sIf (eTB (eBin dNotIn (.slot 3) (.slot 2))) (sRet (eOut [] 2)) sNil))) (QS RR0 (P__law_longest_1 n moves u5 u6)) := by
  unfold m__law_longest_b1
  and_intros
  refine Sim.same fun l4 => ?_
  refine Sim.bind (sim_forN (P := P__law_longest_2 moves d (some n) u5 u6) (fun d s ρ h => ?_) ?_) ?_
  · obtain ⟨u4, rfl⟩ := h; exact e__law_longest_b2 ..
  · exact ⟨_, rfl⟩
  intro s23 fl hfl
  refine sim_aftN hfl (fun ρ h => ?_)
  obtain ⟨u4, rfl⟩ := h
  and_intros
  refine Sim.same fun t24 => ?_
  refine Sim.same fun b25 => ?_
  refine Sim.ite ?_ ?_
  · refine Sim.app ?_
    and_intros
    exact fSr rfl
  · refine Sim.app ?_
    and_intros
    exact fSn ⟨_, _, rfl⟩
def m__law_longest (n moves : D) : Res (D) := noexn (
  (opt (dMul (.lst [.int 0]) n)).bind fun most1 =>
  (opt (dAdd n (.int 1))).bind fun t2 =>
  (opt (rngOf [.int 1, t2])).bind fun l3 =>
  (forB l3 (most1) (m__law_longest_b1 n moves)).bind fun r => aftF r fun s26 =>
  .ok s26)
theorem e__law_longest (n moves : D) : Sim (m__law_longest n moves) (v__law_longest [n, moves]) (fun r q => q = (r, [])) := by
  unfold m__law_longest v__law_longest
  refine Sim.noexn (sim_fn (RR := RR0) (os := fun v : D => (v, ([] : List D))) (E := [some n, some moves, none, none, none, none, none]) rfl rr0 ?_)
  unfold b__law_longest
  and_intros
  refine Sim.same fun most1 => ?_
  refine Sim.app ?_
  and_intros
  refine Sim.same fun t2 => ?_
  refine Sim.same fun l3 => ?_
  refine Sim.bind (sim_forB (P := P__law_longest_1 n moves none none) (RR := RR0) (fun d s ρ h => ?_) ?_) ?_
  · obtain ⟨u3, u4, rfl⟩ := h; exact e__law_longest_b1 ..
  · exact ⟨_, _, rfl⟩
  intro r fl hfl
  refine sim_aftF hfl (fun s26 ρ h => ?_)
  obtain ⟨u3, u4, rfl⟩ := h
  and_intros
  exact fR rfl
abbrev P__law_reached_1 (moves : D) (u0 u2 : Option D) (s : D) (ρ : VL.Env) : Prop := ∃ w4 w5 w6, ρ = [u0, some moves, u2, some s, w4, w5, w6]
abbrev P__law_reached_2 (u0 u1 u2 u4 : Option D) (s : D) (ρ : VL.Env) : Prop := ∃ w5 w6, ρ = [u0, u1, u2, some s, u4, w5, w6]
def m__law_reached_b2 (d : D) (s : D) : Res (D) :=
  (un2 d).bind fun p3 =>
  (opt (dIn p3.1 s)).bind fun t4 =>
  (toB t4).bind fun b5 =>
  (if b5 = true then (
      (opt (dNotIn p3.2 s)).bind fun t6 =>
      (toB t6).bind fun b7 =>
      .ok (b7) : Res (Bool)) else (
      .ok (false) : Res (Bool))).bind fun b8 =>
  if b8 = true then (
    (toL s).bind fun l9 =>
    (toL s).bind fun l10 =>
    (opt (mAppend l10 [p3.2])).bind fun r11 =>
    .ok (.lst r11.1))
  else (
    .ok (s))
theorem e__law_reached_b2 (u0 u1 u2 u4 : Option D) (u5 u6 : Option D) (d : D) (s : D) : Sim (m__law_reached_b2  d s) ((opt (bindT (.tup [.name 5, .name 6]) d [u0, u1, u2, some s, u4, u5, u6])).bind (sIf (eAnd (eTB (eBin dIn (.slot 5) (.slot 3))) (eTB (eBin dNotIn (.slot 6) (.slot 3)))) (sExpr (eMut 3 mAppend [.val (eVar 6)])) sNil)) (QN (P__law_reached_2 u0 u1 u2 u4)) := by
  unfold m__law_reached_b2
  and_intros
  refine Sim.same fun p3 => ?_
  refine Sim.same fun t4 => ?_
  refine Sim.same fun b5 => ?_
  first | refine Sim.bind (P := fun a b => b = (a, [u0, u1, u2, some s, u4, some p3.1, some p3.2])) (Sim.ite ?_ ?_) ?_ | refine Sim.bindR (P := fun a b => b = (a, [u0, u1, u2, some s, u4, some p3.1, some p3.2])) (Sim.ite ?_ ?_) ?_
  · refine Sim.same fun t6 => ?_
    refine Sim.same fun b7 => ?_
    exact ⟨_, rfl, rfl⟩
  · exact ⟨_, rfl, rfl⟩
  rintro b8 _ rfl
  and_intros
  refine Sim.ite ?_ ?_
  · refine Sim.app ?_
    and_intros
    refine Sim.same fun l9 => ?_
    refine Sim.same fun l10 => ?_
    refine Sim.same fun r11 => ?_
    exact fNn ⟨_, _, rfl⟩
  · refine Sim.app ?_
    and_intros
    exact fNn ⟨_, _, rfl⟩
def m__law_reached_b1 (moves : D) (d : D) (s : D) : Res (D) :=
  (opt (itD moves)).bind fun l2 =>
  (forN l2 (s) m__law_reached_b2).bind fun s12 =>
  .ok (s12)
theorem e__law_reached_b1 (moves : D) (u0 u2 : Option D) (u4 u5 u6 : Option D) (d : D) (s : D) : Sim (m__law_reached_b1 moves d s) ((opt (bindT (.name 4) d [u0, some moves, u2, some s, u4, u5, u6])).bind (sFor (eIt (eVar 1)) (.tup [.name 5, .name 6]) (sIf (eAnd (eTB (eBin dIn (.slot 5) (.slot 3))) (eTB (eBin dNotIn (.slot 6) (.slot 3)))) (sExpr (eMut 3 mAppend [.val (eVar 6)])) sNil))) (QN (P__law_reached_1 moves u0 u2)) := by
  unfold m__law_reached_b1
  and_intros
  refine Sim.same fun l2 => ?_
  refine Sim.bind (sim_forN (P := P__law_reached_2 u0 (some moves) u2 (some d)) (fun d s ρ h => ?_) ?_) ?_
  · obtain ⟨u5, u6, rfl⟩ := h; exact e__law_reached_b2 ..
  · exact ⟨_, _, rfl⟩
  intro s12 fl hfl
  refine sim_aftN hfl (fun ρ h => ?_)
  obtain ⟨u5, u6, rfl⟩ := h
  and_intros
  exact fNn ⟨_, _, _, rfl⟩
def m__law_reached (n moves start : D) : Res (D) := noexn (
  (opt (rngOf [n])).bind fun l1 =>
  (forN l1 (.lst [start]) (m__law_reached_b1 moves)).bind fun s13 =>
  .ok s13)
theorem e__law_reached (n moves start : D) : Sim (m__law_reached n moves start) (v__law_reached [n, moves, start]) (fun r q => q = (r, [])) := by
  unfold m__law_reached v__law_reached
  refine Sim.noexn (sim_fn (RR := RR0) (os := fun v : D => (v, ([] : List D))) (E := [some n, some moves, some start, none, none, none, none]) rfl rr0 ?_)
  unfold b__law_reached
  and_intros
  refine Sim.app ?_
  and_intros
  refine Sim.same fun l1 => ?_
  refine Sim.bind (sim_forN (P := P__law_reached_1 moves (some n) (some start)) (fun d s ρ h => ?_) ?_) ?_
  · obtain ⟨u4, u5, u6, rfl⟩ := h; exact e__law_reached_b1 ..
  · exact ⟨_, _, _, rfl⟩
  intro s13 fl hfl
  refine sim_aftN hfl (fun ρ h => ?_)
  obtain ⟨u4, u5, u6, rfl⟩ := h
  and_intros
  exact fR rfl
abbrev P__law_is_right_1 (most : D) (u0 u1 u2 u3 u5 u8 : Option D) (s : D) (ρ : VL.Env) : Prop := ∃ w7, ρ = [u0, u1, u2, u3, some most, u5, some s, w7, u8]
def m__law_is_right_b1 (most : D) (d : D) (s : D) : Res (D) :=
  (opt (dIx most d)).bind fun t11 =>
  (setR s d t11).bind fun ranks12 =>
  .ok (ranks12)
theorem e__law_is_right_b1 (most : D) (u0 u1 u2 u3 u5 u8 : Option D) (u7 : Option D) (d : D) (s : D) : Sim (m__law_is_right_b1 most d s) ((opt (bindT (.name 7) d [u0, u1, u2, u3, some most, u5, some s, u7, u8])).bind (sSetIx 6 (eVar 7) (eBin dIx (.slot 4) (.slot 7)))) (QN (P__law_is_right_1 most u0 u1 u2 u3 u5 u8)) := by
  unfold m__law_is_right_b1
  and_intros
  refine Sim.same fun t11 => ?_
  refine Sim.same fun ranks12 => ?_
  exact fNn ⟨_, rfl⟩
def m__law_is_right_c3 (n : D) (d : D) : Res (D) :=
  (opt (dSub n d)).bind fun t70 =>
  .ok t70
theorem e__law_is_right_c3 (n : D) (u1 u2 u3 u4 u5 u6 u8 : Option D) (d : D) : Sim (m__law_is_right_c3 n d) (lcIt [7] (.name 7) tYesE (eBin dSub (.slot 0) (.slot 7)) d [some n, u1, u2, u3, u4, u5, u6, none, u8]) (fun a b => b = (some a, [some n, u1, u2, u3, u4, u5, u6, none, u8])) := by
  unfold m__law_is_right_c3 lcIt
  and_intros
  refine Sim.same fun t70 => ?_
  exact ⟨_, rfl, rfl⟩
def m__law_is_right_c4 (d : D) : Res (D) :=
  .ok d
theorem e__law_is_right_c4 (u0 u1 u2 u3 u4 u5 u6 u8 : Option D) (d : D) : Sim (m__law_is_right_c4 d) (lcIt [7] (.name 7) tYesE (eVar 7) d [u0, u1, u2, u3, u4, u5, u6, none, u8]) (fun a b => b = (some a, [u0, u1, u2, u3, u4, u5, u6, none, u8])) := by
  unfold m__law_is_right_c4 lcIt
  and_intros
  exact ⟨_, rfl, rfl⟩
abbrev P__law_is_right_2 (n moves start : D) (u3 u4 u5 u6 u7 : Option D) (s : Unit) (ρ : VL.Env) : Prop := ∃ w8, ρ = [some n, some moves, some start, u3, u4, u5, u6, u7, w8]
def m__law_is_right_b2 (n moves start : D) (d : D) (s : Unit) : Res (Stp (Unit) (D)) :=
  (m_shows_ends n moves start d).bind fun t75 =>
  (m__law_same t75 (.bl false)).bind fun t76 =>
  (opt (truD t76)).bind fun b77 =>
  if (!b77) = true then (
    .ok (.ret (.bl false)))
  else (
    .ok (.next ()))
theorem e__law_is_right_b2 (n moves start : D) (u3 u4 u5 u6 u7 : Option D) (u8 : Option D) (d : D) (s : Unit) : Sim (m__law_is_right_b2 n moves start d s) ((opt (bindT (.name 8) d [some n, some moves, some start, u3, u4, u5, u6, u7, u8])).bind (sIf (eNot (eTru (.ex (eFn [.brw, .brw] v__law_same [.bor (.ex (eFn [.brw, .brw, .brw, .brw] v_shows_ends [.bor (.slot 0), .bor (.slot 1), .bor (.slot 2), .bor (.slot 8)])), .bor (.ex (eC (.bl false)))])))) (sRet (eUp (eC (.bl false)))) sNil)) (QS RR0 (P__law_is_right_2 n moves start u3 u4 u5 u6 u7)) := by
  unfold m__law_is_right_b2
  and_intros
  refine Sim.bind (e_shows_ends n moves start d) ?_
  rintro t75 _ rfl
  and_intros
  refine Sim.bind (e__law_same t75 (.bl false)) ?_
  rintro t76 _ rfl
  and_intros
  refine Sim.same fun b77 => ?_
  refine Sim.ite ?_ ?_
  · refine Sim.app ?_
    and_intros
    exact fSr rfl
  · refine Sim.app ?_
    and_intros
    exact fSn ⟨_, rfl⟩
def m__law_is_right (n moves start told : D) : Res (D) := noexn (
  (opt (fIsi "tuple" [told, .non])).bind fun t1 =>
  (opt (truD t1)).bind fun b2 =>
  (if (!b2) = true then (
    .ok (true) : Res (Bool)) else (
    (opt (fLen [told])).bind fun t3 =>
    (opt (dLt t3 (.int 2))).bind fun t4 =>
    (toB t4).bind fun b5 =>
    .ok (b5) : Res (Bool))).bind fun b6 =>
  if b6 = true then (
    .ok (.bl false))
  else (
    (m__law_longest n moves).bind fun most7 =>
    (m__law_reached n moves start).bind fun reached8 =>
    (opt (dMul (.lst [.int (-1)]) n)).bind fun ranks9 =>
    (opt (itD reached8)).bind fun l10 =>
    (forN l10 (ranks9) (m__law_is_right_b1 most7)).bind fun s13 =>
    (opt (dIx most7 start)).bind fun t14 =>
    (opt (dLt t14 n)).bind fun t15 =>
    (toB t15).bind fun b16 =>
    if b16 = true then (
      (opt (fLen [told])).bind fun t17 =>
      (opt (dNe t17 (.int 2))).bind fun t18 =>
      (toB t18).bind fun b19 =>
      (if b19 = true then (
            .ok (true) : Res (Bool)) else (
            (opt (dIx told (.int 0))).bind fun t20 =>
            (opt (dNe t20 (.str [101, 110, 100, 115]))).bind fun t21 =>
            (toB t21).bind fun b22 =>
            (if b22 = true then (
                .ok (true) : Res (Bool)) else (
                (opt (dIx told (.int 1))).bind fun t23 =>
                (m__law_are_wholes t23).bind fun t24 =>
                (opt (truD t24)).bind fun b25 =>
                (if (!b25) = true then (
                    .ok (true) : Res (Bool)) else (
                    (opt (dIx told (.int 1))).bind fun t26 =>
                    (opt (dNe t26 s13)).bind fun t27 =>
                    (toB t27).bind fun b28 =>
                    .ok (b28) : Res (Bool))).bind fun b29 =>
                .ok (b29) : Res (Bool))).bind fun b30 =>
            .ok (b30) : Res (Bool))).bind fun b31 =>
      if b31 = true then (
        .ok (.bl false))
      else (
        (opt (dIx told (.int 1))).bind fun t32 =>
        (m_shows_ends n moves start t32).bind fun t33 =>
        (m__law_same t33 (.bl true)).bind fun t34 =>
        .ok t34))
    else (
      (opt (fLen [told])).bind fun t35 =>
      (opt (dNe t35 (.int 3))).bind fun t36 =>
      (toB t36).bind fun b37 =>
      (if b37 = true then (
            .ok (true) : Res (Bool)) else (
            (opt (dIx told (.int 0))).bind fun t38 =>
            (opt (dNe t38 (.str [114, 111, 117, 110, 100]))).bind fun t39 =>
            (toB t39).bind fun b40 =>
            (if b40 = true then (
                .ok (true) : Res (Bool)) else (
                (opt (dIx told (.int 1))).bind fun t41 =>
                (m__law_is_run moves start t41).bind fun t42 =>
                (opt (truD t42)).bind fun b43 =>
                .ok (!b43) : Res (Bool))).bind fun b44 =>
            .ok (b44) : Res (Bool))).bind fun b45 =>
      if b45 = true then (
        .ok (.bl false))
      else (
        (opt (dIx told (.int 1))).bind fun t46 =>
        (opt (dIx t46 (.int (-1)))).bind fun t47 =>
        (opt (dIx told (.int 2))).bind fun t48 =>
        (m__law_is_run moves t47 t48).bind fun t49 =>
        (opt (truD t49)).bind fun b50 =>
        (if (!b50) = true then (
                .ok (true) : Res (Bool)) else (
                (opt (dIx told (.int 2))).bind fun t51 =>
                (opt (fLen [t51])).bind fun t52 =>
                (opt (dLt t52 (.int 2))).bind fun t53 =>
                (toB t53).bind fun b54 =>
                (if b54 = true then (
                    .ok (true) : Res (Bool)) else (
                    (opt (dIx told (.int 2))).bind fun t55 =>
                    (opt (dIx t55 (.int (-1)))).bind fun t56 =>
                    (opt (dIx told (.int 1))).bind fun t57 =>
                    (opt (dIx t57 (.int (-1)))).bind fun t58 =>
                    (opt (dNe t56 t58)).bind fun t59 =>
                    (toB t59).bind fun b60 =>
                    .ok (b60) : Res (Bool))).bind fun b61 =>
                .ok (b61) : Res (Bool))).bind fun b62 =>
        if b62 = true then (
          .ok (.bl false))
        else (
          (opt (dIx told (.int 1))).bind fun t63 =>
          (opt (dIx told (.int 2))).bind fun t64 =>
          (m_shows_round n moves start t63 t64).bind fun t65 =>
          (m__law_same t65 (.bl true)).bind fun t66 =>
          (opt (truD t66)).bind fun b67 =>
          if (!b67) = true then (
            .ok (.bl false))
          else (
            (opt (dMul (.lst [.int 0]) n)).bind fun t68 =>
            (opt (rngOf [n])).bind fun l69 =>
            (lenG l69).bind fun _ =>
            (mMap l69 (m__law_is_right_c3 n)).bind fun l71 =>
            (opt (rngOf [n])).bind fun l72 =>
            (lenG l72).bind fun _ =>
            (mMap l72 m__law_is_right_c4).bind fun l73 =>
            (opt (itD (.lst [s13, most7, t68, .lst l71, .lst l73]))).bind fun l74 =>
            (forB l74 () (m__law_is_right_b2 n moves start)).bind fun r => aftF r fun s78 =>
            .ok (.bl true)))))))
theorem e__law_is_right (n moves start told : D) : Sim (m__law_is_right n moves start told) (v__law_is_right [n, moves, start, told]) (fun r q => q = (r, [])) := by
  unfold m__law_is_right v__law_is_right
  refine Sim.noexn (sim_fn (RR := RR0) (os := fun v : D => (v, ([] : List D))) (E := [some n, some moves, some start, some told, none, none, none, none, none]) rfl rr0 ?_)
  unfold b__law_is_right
  and_intros
  refine Sim.same fun t1 => ?_
  refine Sim.same fun b2 => ?_
  first | refine Sim.bind (P := fun a b => b = (a, [some n, some moves, some start, some told, none, none, none, none, none])) (Sim.ite ?_ ?_) ?_ | refine Sim.bindR (P := fun a b => b = (a, [some n, some moves, some start, some told, none, none, none, none, none])) (Sim.ite ?_ ?_) ?_
  · exact ⟨_, rfl, rfl⟩
  · refine Sim.same fun t3 => ?_
    refine Sim.same fun t4 => ?_
    refine Sim.same fun b5 => ?_
    exact ⟨_, rfl, rfl⟩
  rintro b6 _ rfl
  and_intros
  refine Sim.ite ?_ ?_
  · refine Sim.app ?_
    and_intros
    exact fR rfl
  · refine Sim.app ?_
    and_intros
    refine Sim.app ?_
    and_intros
    refine Sim.bind (e__law_longest n moves) ?_
    rintro most7 _ rfl
    and_intros
    refine Sim.app ?_
    and_intros
    refine Sim.bind (e__law_reached n moves start) ?_
    rintro reached8 _ rfl
    and_intros
    refine Sim.app ?_
    and_intros
    refine Sim.same fun ranks9 => ?_
    refine Sim.app ?_
    and_intros
    refine Sim.same fun l10 => ?_
    refine Sim.bind (sim_forN (P := P__law_is_right_1 most7 (some n) (some moves) (some start) (some told) (some reached8) none) (fun d s ρ h => ?_) ?_) ?_
    · obtain ⟨u7, rfl⟩ := h; exact e__law_is_right_b1 ..
    · exact ⟨_, rfl⟩
    intro s13 fl hfl
    refine sim_aftN hfl (fun ρ h => ?_)
    obtain ⟨u7, rfl⟩ := h
    and_intros
    refine Sim.same fun t14 => ?_
    refine Sim.same fun t15 => ?_
    refine Sim.same fun b16 => ?_
    refine Sim.ite ?_ ?_
    · refine Sim.app ?_
      and_intros
      refine Sim.same fun t17 => ?_
      refine Sim.same fun t18 => ?_
      refine Sim.same fun b19 => ?_
      first | refine Sim.bind (P := fun a b => b = (a, [some n, some moves, some start, some told, some most7, some reached8, some s13, u7, none])) (Sim.ite ?_ ?_) ?_ | refine Sim.bindR (P := fun a b => b = (a, [some n, some moves, some start, some told, some most7, some reached8, some s13, u7, none])) (Sim.ite ?_ ?_) ?_
      · exact ⟨_, rfl, rfl⟩
      · refine Sim.same fun t20 => ?_
        refine Sim.same fun t21 => ?_
        refine Sim.same fun b22 => ?_
        first | refine Sim.bind (P := fun a b => b = (a, [some n, some moves, some start, some told, some most7, some reached8, some s13, u7, none])) (Sim.ite ?_ ?_) ?_ | refine Sim.bindR (P := fun a b => b = (a, [some n, some moves, some start, some told, some most7, some reached8, some s13, u7, none])) (Sim.ite ?_ ?_) ?_
        · exact ⟨_, rfl, rfl⟩
        · refine Sim.same fun t23 => ?_
          refine Sim.bind (e__law_are_wholes t23) ?_
          rintro t24 _ rfl
          and_intros
          refine Sim.same fun b25 => ?_
          first | refine Sim.bind (P := fun a b => b = (a, [some n, some moves, some start, some told, some most7, some reached8, some s13, u7, none])) (Sim.ite ?_ ?_) ?_ | refine Sim.bindR (P := fun a b => b = (a, [some n, some moves, some start, some told, some most7, some reached8, some s13, u7, none])) (Sim.ite ?_ ?_) ?_
          · exact ⟨_, rfl, rfl⟩
          · refine Sim.same fun t26 => ?_
            refine Sim.same fun t27 => ?_
            refine Sim.same fun b28 => ?_
            exact ⟨_, rfl, rfl⟩
          rintro b29 _ rfl
          and_intros
          exact ⟨_, rfl, rfl⟩
        rintro b30 _ rfl
        and_intros
        exact ⟨_, rfl, rfl⟩
      rintro b31 _ rfl
      and_intros
      refine Sim.ite ?_ ?_
      · refine Sim.app ?_
        and_intros
        exact fR rfl
      · refine Sim.app ?_
        and_intros
        refine Sim.app ?_
        and_intros
        refine Sim.same fun t32 => ?_
        refine Sim.bind (e_shows_ends n moves start t32) ?_
        rintro t33 _ rfl
        and_intros
        refine Sim.bind (e__law_same t33 (.bl true)) ?_
        rintro t34 _ rfl
        and_intros
        exact fR rfl
    · refine Sim.app ?_
      and_intros
      refine Sim.app ?_
      and_intros
      refine Sim.same fun t35 => ?_
      refine Sim.same fun t36 => ?_
      refine Sim.same fun b37 => ?_
      first | refine Sim.bind (P := fun a b => b = (a, [some n, some moves, some start, some told, some most7, some reached8, some s13, u7, none])) (Sim.ite ?_ ?_) ?_ | refine Sim.bindR (P := fun a b => b = (a, [some n, some moves, some start, some told, some most7, some reached8, some s13, u7, none])) (Sim.ite ?_ ?_) ?_
      · exact ⟨_, rfl, rfl⟩
      · refine Sim.same fun t38 => ?_
        refine Sim.same fun t39 => ?_
        refine Sim.same fun b40 => ?_
        first | refine Sim.bind (P := fun a b => b = (a, [some n, some moves, some start, some told, some most7, some reached8, some s13, u7, none])) (Sim.ite ?_ ?_) ?_ | refine Sim.bindR (P := fun a b => b = (a, [some n, some moves, some start, some told, some most7, some reached8, some s13, u7, none])) (Sim.ite ?_ ?_) ?_
        · exact ⟨_, rfl, rfl⟩
        · refine Sim.same fun t41 => ?_
          refine Sim.bind (e__law_is_run moves start t41) ?_
          rintro t42 _ rfl
          and_intros
          refine Sim.same fun b43 => ?_
          exact ⟨_, rfl, rfl⟩
        rintro b44 _ rfl
        and_intros
        exact ⟨_, rfl, rfl⟩
      rintro b45 _ rfl
      and_intros
      refine Sim.ite ?_ ?_
      · refine Sim.app ?_
        and_intros
        exact fR rfl
      · refine Sim.app ?_
        and_intros
        refine Sim.app ?_
        and_intros
        refine Sim.same fun t46 => ?_
        refine Sim.same fun t47 => ?_
        refine Sim.same fun t48 => ?_
        refine Sim.bind (e__law_is_run moves t47 t48) ?_
        rintro t49 _ rfl
        and_intros
        refine Sim.same fun b50 => ?_
        first | refine Sim.bind (P := fun a b => b = (a, [some n, some moves, some start, some told, some most7, some reached8, some s13, u7, none])) (Sim.ite ?_ ?_) ?_ | refine Sim.bindR (P := fun a b => b = (a, [some n, some moves, some start, some told, some most7, some reached8, some s13, u7, none])) (Sim.ite ?_ ?_) ?_
        · exact ⟨_, rfl, rfl⟩
        · refine Sim.same fun t51 => ?_
          refine Sim.same fun t52 => ?_
          refine Sim.same fun t53 => ?_
          refine Sim.same fun b54 => ?_
          first | refine Sim.bind (P := fun a b => b = (a, [some n, some moves, some start, some told, some most7, some reached8, some s13, u7, none])) (Sim.ite ?_ ?_) ?_ | refine Sim.bindR (P := fun a b => b = (a, [some n, some moves, some start, some told, some most7, some reached8, some s13, u7, none])) (Sim.ite ?_ ?_) ?_
          · exact ⟨_, rfl, rfl⟩
          · refine Sim.same fun t55 => ?_
            refine Sim.same fun t56 => ?_
            refine Sim.same fun t57 => ?_
            refine Sim.same fun t58 => ?_
            refine Sim.same fun t59 => ?_
            refine Sim.same fun b60 => ?_
            exact ⟨_, rfl, rfl⟩
          rintro b61 _ rfl
          and_intros
          exact ⟨_, rfl, rfl⟩
        rintro b62 _ rfl
        and_intros
        refine Sim.ite ?_ ?_
        · refine Sim.app ?_
          and_intros
          exact fR rfl
        · refine Sim.app ?_
          and_intros
          refine Sim.app ?_
          and_intros
          refine Sim.same fun t63 => ?_
          refine Sim.same fun t64 => ?_
          refine Sim.bind (e_shows_round n moves start t63 t64) ?_
          rintro t65 _ rfl
          and_intros
          refine Sim.bind (e__law_same t65 (.bl true)) ?_
          rintro t66 _ rfl
          and_intros
          refine Sim.same fun b67 => ?_
          refine Sim.ite ?_ ?_
          · refine Sim.app ?_
            and_intros
            exact fR rfl
          · refine Sim.app ?_
            and_intros
            refine Sim.app ?_
            and_intros
            refine Sim.same fun t68 => ?_
            refine Sim.same fun l69 => ?_
            refine Sim.same fun _ => ?_
            refine Sim.bind (sim_map (fun d => e__law_is_right_c3 ..)) ?_
            rintro l71 _ rfl
            and_intros
            refine Sim.same fun l72 => ?_
            refine Sim.same fun _ => ?_
            refine Sim.bind (sim_map (fun d => e__law_is_right_c4 ..)) ?_
            rintro l73 _ rfl
            and_intros
            refine Sim.same fun l74 => ?_
            refine Sim.bind (sim_forB (P := P__law_is_right_2 n moves start (some told) (some most7) (some reached8) (some s13) u7) (RR := RR0) (fun d s ρ h => ?_) ?_) ?_
            · obtain ⟨u8, rfl⟩ := h; exact e__law_is_right_b2 ..
            · exact ⟨_, rfl⟩
            intro r fl hfl
            refine sim_aftF hfl (fun s78 ρ h => ?_)
            obtain ⟨u8, rfl⟩ := h
            and_intros
            exact fR rfl
def m__law_asks (n moves start : D) : Res (D) := noexn (
  (opt (fList [moves])).bind fun handed1 =>
  (((ckB (pure1 n)).bind fun _ => (ckB (pure1 start)).bind fun _ => (ckB (pure1 handed1)).bind fun _ => .ok () : Res Unit).bind fun _ => (noexn (
    (nc start).bind fun _ =>
    (m_ending n handed1 start).bind fun told2 =>
    .ok told2 : Res D)).bind fun told3 => (noexn (
    (opt (dNe handed1 moves)).bind fun t4 =>
    (toB t4).bind fun b5 =>
    (if b5 = true then (
      .ok (true) : Res (Bool)) else (
      (m__law_is_right n moves start told3).bind fun t6 =>
      (opt (truD t6)).bind fun b7 =>
      .ok (!b7) : Res (Bool))).bind fun b8 =>
    if b8 = true then (
    .ok (.ret (.bl false)))
  else (
    (opt (dIx told3 (.int 0))).bind fun word9 =>
    .ok (.next (word9))) : Res (Stp (D) D))).bind fun r => frA r fun s => ((ckB (scaD s)).bind fun _ => (getL told3 1).bind fun us => (capL us 2).bind fun _ => .ok s : Res (D))).bind fun r => aftF r fun s10 =>
  (m_ending n handed1 start).bind fun again11 =>
  (m__law_is_right n moves start again11).bind fun t12 =>
  (toB t12).bind fun b13 =>
  (if b13 = true then (
    (opt (dIx again11 (.int 0))).bind fun t14 =>
    (opt (dEq t14 s10)).bind fun t15 =>
    (toB t15).bind fun b16 =>
    (if b16 = true then (
        (opt (dEq handed1 moves)).bind fun t17 =>
        .ok (t17) : Res (D)) else (
        .ok (.bl false) : Res (D))).bind fun t18 =>
    .ok (t18) : Res (D)) else (
    .ok (.bl false) : Res (D))).bind fun t19 =>
  .ok t19)
theorem e__law_asks (n moves start : D) : Sim (m__law_asks n moves start) (v__law_asks [n, moves, start]) (fun r q => q = (r, [])) := by
  unfold m__law_asks v__law_asks
  refine Sim.noexn (sim_fn (RR := RR0) (os := fun v : D => (v, ([] : List D))) (E := [some n, some moves, some start, none, none, none, none]) rfl rr0 ?_)
  unfold b__law_asks
  and_intros
  refine Sim.same fun handed1 => ?_
  refine Sim.app ?_
  and_intros
  refine Sim.bind (sim_fr (P := (fun (told : D) (s : D) (ρ : VL.Env) => ρ = [some n, some moves, some start, some handed1, some told, some s, none])) (P' := (fun (s : D) (ρ : VL.Env) => ρ = [some n, some moves, some start, some handed1, none, some s, none])) (ρb := [some n, none, some start, some handed1, none, none, none]) ?_ ?_ (fun told3 => ?_) (fun told3 s ρ2 h => ?_)) ?_
  · simp only [putL_cons, putL_nil, List.map_cons, List.map_nil, gv_z, gv_s, List.set_cons_zero, List.set_cons_succ, List.getElem?_cons_zero, List.getElem?_cons_succ, Res.bind_ok]
    refine Sim.same fun _ => ?_
    refine Sim.same fun _ => ?_
    refine Sim.same fun _ => ?_
    exact ⟨_, rfl, rfl⟩
  · and_intros
    refine Sim.same fun _ => ?_
    refine Sim.bind (e_ending n handed1 start) ?_
    rintro told2 _ rfl
    and_intros
    exact ⟨_, rfl, rfl⟩
  · and_intros
    refine Sim.same fun t4 => ?_
    refine Sim.same fun b5 => ?_
    first | refine Sim.bind (P := fun a b => b = (a, [some n, some moves, some start, some handed1, some told3, none, none])) (Sim.ite ?_ ?_) ?_ | refine Sim.bindR (P := fun a b => b = (a, [some n, some moves, some start, some handed1, some told3, none, none])) (Sim.ite ?_ ?_) ?_
    · exact ⟨_, rfl, rfl⟩
    · refine Sim.bind (e__law_is_right n moves start told3) ?_
      rintro t6 _ rfl
      and_intros
      refine Sim.same fun b7 => ?_
      exact ⟨_, rfl, rfl⟩
    rintro b8 _ rfl
    and_intros
    refine Sim.ite ?_ ?_
    · refine Sim.app ?_
      and_intros
      exact fFr rfl
    · refine Sim.app ?_
      and_intros
      refine Sim.app ?_
      and_intros
      refine Sim.same fun word9 => ?_
      exact fFn rfl
  · subst h
    unfold frK
    simp only [putK_cons, putK_nil, isSet_cons, isSet_nil, wipeE_cons, wipeE_nil, gv_z, gv_s, List.set_cons_zero, List.set_cons_succ, List.getElem?_cons_zero, List.getElem?_cons_succ, Res.bind_ok, Res.bind_assoc]
    refine Sim.same fun _ => ?_
    refine Sim.same fun _ => ?_
    refine Sim.same fun _ => ?_
    exact ⟨_, rfl, rfl⟩
  intro r fl hfl
  refine sim_aftF hfl (fun s10 ρ h => ?_)
  subst h
  and_intros
  refine Sim.bind (e_ending n handed1 start) ?_
  rintro again11 _ rfl
  and_intros
  refine Sim.app ?_
  and_intros
  refine Sim.bind (e__law_is_right n moves start again11) ?_
  rintro t12 _ rfl
  and_intros
  refine Sim.same fun b13 => ?_
  first | refine Sim.bind (P := fun a b => b = (a, [some n, some moves, some start, some handed1, none, some s10, some again11])) (Sim.ite ?_ ?_) ?_ | refine Sim.bindR (P := fun a b => b = (a, [some n, some moves, some start, some handed1, none, some s10, some again11])) (Sim.ite ?_ ?_) ?_
  · refine Sim.same fun t14 => ?_
    refine Sim.same fun t15 => ?_
    refine Sim.same fun b16 => ?_
    first | refine Sim.bind (P := fun a b => b = (a, [some n, some moves, some start, some handed1, none, some s10, some again11])) (Sim.ite ?_ ?_) ?_ | refine Sim.bindR (P := fun a b => b = (a, [some n, some moves, some start, some handed1, none, some s10, some again11])) (Sim.ite ?_ ?_) ?_
    · refine Sim.same fun t17 => ?_
      exact ⟨_, rfl, rfl⟩
    · exact ⟨_, rfl, rfl⟩
    rintro t18 _ rfl
    and_intros
    exact ⟨_, rfl, rfl⟩
  · exact ⟨_, rfl, rfl⟩
  rintro t19 _ rfl
  and_intros
  exact fR rfl
abbrev P_law_1 (u0 u13 u14 u15 u16 : Option D) (s : D) (ρ : VL.Env) : Prop := ∃ w2 w3 w4 w5 w6 w7 w8 w9 w10 w11 w12, ρ = [u0, some s, w2, w3, w4, w5, w6, w7, w8, w9, w10, w11, w12, u13, u14, u15, u16]
def m_law_c2 (names : D) (d : D) : Res (D) :=
  (opt (dIx names d)).bind fun t9 =>
  (opt (dAdd d (.int 1))).bind fun t10 =>
  (opt (dIx names t10)).bind fun t11 =>
  .ok (.tup [t9, t11])
theorem e_law_c2 (names : D) (u0 u1 u2 u3 u4 u5 u6 u8 u9 u10 u11 u12 u13 u15 u16 : Option D) (d : D) : Sim (m_law_c2 names d) (lcIt [14] (.name 14) tYesE (eTup [.val (eBin dIx (.slot 7) (.slot 14)), .val (eBin dIx (.slot 7) (.ex (eBin dAdd (.slot 14) (.ex (eC (.int 1))))))]) d [u0, u1, u2, u3, u4, u5, u6, some names, u8, u9, u10, u11, u12, u13, none, u15, u16]) (fun a b => b = (some a, [u0, u1, u2, u3, u4, u5, u6, some names, u8, u9, u10, u11, u12, u13, none, u15, u16])) := by
  unfold m_law_c2 lcIt
  and_intros
  refine Sim.same fun t9 => ?_
  refine Sim.same fun t10 => ?_
  refine Sim.same fun t11 => ?_
  exact ⟨_, rfl, rfl⟩
def m_law_c3 (names : D) (d : D) : Res (Option D) :=
  (un2 d).bind fun p14 =>
  (opt (dIx names p14.1)).bind fun t15 =>
  (opt (dIx names p14.2)).bind fun t16 =>
  (opt (dLt t15 t16)).bind fun t17 =>
  (toB t17).bind fun b18 =>
  if b18 = true then (
    .ok (some (.tup [p14.1, p14.2])))
  else .ok none
theorem e_law_c3 (names : D) (u0 u1 u2 u3 u4 u5 u6 u8 u9 u10 u11 u12 u13 u14 : Option D) (d : D) : Sim (m_law_c3 names d) (lcIt [15, 16] (.tup [.name 15, .name 16]) (eTB (eBin dLt (.ex (eBin dIx (.slot 7) (.slot 15))) (.ex (eBin dIx (.slot 7) (.slot 16))))) (eTup [.val (eVar 15), .val (eVar 16)]) d [u0, u1, u2, u3, u4, u5, u6, some names, u8, u9, u10, u11, u12, u13, u14, none, none]) (fun a b => b = (a, [u0, u1, u2, u3, u4, u5, u6, some names, u8, u9, u10, u11, u12, u13, u14, none, none])) := by
  unfold m_law_c3 lcIt
  and_intros
  refine Sim.same fun p14 => ?_
  refine Sim.same fun t15 => ?_
  refine Sim.same fun t16 => ?_
  refine Sim.same fun t17 => ?_
  refine Sim.same fun b18 => ?_
  refine Sim.ite ?_ ?_
  · exact ⟨_, rfl, rfl⟩
  · exact ⟨_, rfl, rfl⟩
abbrev P_law_4 (n start : D) (u0 u1 u2 u4 u5 u7 u8 u9 u10 u11 u13 u14 u15 u16 : Option D) (s : Unit) (ρ : VL.Env) : Prop := ∃ w12, ρ = [u0, u1, u2, some n, u4, u5, some start, u7, u8, u9, u10, u11, w12, u13, u14, u15, u16]
def m_law_b4 (n start : D) (d : D) (s : Unit) : Res (Stp (Unit) (D)) :=
  (opt (dSlice d none (some 60))).bind fun t30 =>
  (m__law_asks n t30 start).bind fun t31 =>
  (opt (truD t31)).bind fun b32 =>
  if (!b32) = true then (
    .ok (.ret (.bl false)))
  else (
    .ok (.next ()))
theorem e_law_b4 (n start : D) (u0 u1 u2 u4 u5 u7 u8 u9 u10 u11 u13 u14 u15 u16 : Option D) (u12 : Option D) (d : D) (s : Unit) : Sim (m_law_b4 n start d s) ((opt (bindT (.name 12) d [u0, u1, u2, some n, u4, u5, some start, u7, u8, u9, u10, u11, u12, u13, u14, u15, u16])).bind (sIf (eNot (eTru (.ex (eFn [.fz, .brw, .fz] v__law_asks [.val (eVar 3), .bor (.ex (eSl (.slot 12) none (some (eC (.int 60))))), .val (eVar 6)])))) (sRet (eC (.bl false))) sNil)) (QS RR0 (P_law_4 n start u0 u1 u2 u4 u5 u7 u8 u9 u10 u11 u13 u14 u15 u16)) := by
  unfold m_law_b4
  and_intros
  refine Sim.same fun t30 => ?_
  refine Sim.bind (e__law_asks n t30 start) ?_
  rintro t31 _ rfl
  and_intros
  refine Sim.same fun b32 => ?_
  refine Sim.ite ?_ ?_
  · refine Sim.app ?_
    and_intros
    exact fSr rfl
  · refine Sim.app ?_
    and_intros
    exact fSn ⟨_, rfl⟩
def m_law_b1 (d : D) (s : D) : Res (Stp (D) (D)) :=
  (ckB (cellD s)).bind fun _ =>
  (m__law_course s).bind fun r3 =>
  (un3 r3.1).bind fun p4 =>
  (ckB (cellD r3.2)).bind fun _ =>
  (mDraw r3.2 p4.1).bind fun r5 =>
  (ckB (cellD r5.2)).bind fun _ =>
  (m__law_names r5.2 p4.1).bind fun r6 =>
  (opt (dSub p4.1 (.int 1))).bind fun t7 =>
  (opt (rngOf [t7])).bind fun l8 =>
  (lenG l8).bind fun _ =>
  (mMap l8 (m_law_c2 r6.1)).bind fun chain12 =>
  (opt (itD p4.2.2)).bind fun l13 =>
  (lenG l13).bind fun _ =>
  (mFil l13 (m_law_c3 r6.1)).bind fun forward19 =>
  (ckB (cellD r6.2)).bind fun _ =>
  (mDraw r6.2 p4.1).bind fun r20 =>
  (opt (dSub p4.1 (.int 1))).bind fun t21 =>
  (opt (dIx r6.1 t21)).bind fun t22 =>
  (opt (dIx r6.1 r20.1)).bind fun t23 =>
  (opt (dAdd (.lst chain12) (.lst [.tup [t22, t23]]))).bind fun t24 =>
  (opt (dAdd (.lst forward19) (.lst [.tup [t22, t23]]))).bind fun t25 =>
  (opt (dSlice p4.2.2 (some 1) none)).bind fun t26 =>
  (opt (dSlice p4.2.2 none (some 1))).bind fun t27 =>
  (opt (dAdd t26 t27)).bind fun t28 =>
  (opt (itD (.lst [p4.2.2, .lst forward19, .lst chain12, t24, t25, t28, .lst []]))).bind fun l29 =>
  (forB l29 () (m_law_b4 p4.1 r5.1)).bind fun r => aftL r fun s33 =>
  (opt (dIx r6.1 (.int 0))).bind fun t34 =>
  (m__law_asks p4.1 (.lst chain12) t34).bind fun t35 =>
  (opt (truD t35)).bind fun b36 =>
  (if (!b36) = true then (
      .ok (true) : Res (Bool)) else (
      (opt (dAdd (.lst chain12) (.lst [.tup [t22, t23]]))).bind fun t37 =>
      (opt (dIx r6.1 (.int 0))).bind fun t38 =>
      (m__law_asks p4.1 t37 t38).bind fun t39 =>
      (opt (truD t39)).bind fun b40 =>
      .ok (!b40) : Res (Bool))).bind fun b41 =>
  if b41 = true then (
    .ok (.ret (.bl false)))
  else (
    (opt (dIx r6.1 (.int 0))).bind fun t42 =>
    (m_ending p4.1 (.lst chain12) t42).bind fun t43 =>
    (opt (dIx t43 (.int 0))).bind fun t44 =>
    (opt (dNe t44 (.str [101, 110, 100, 115]))).bind fun t45 =>
    (toB t45).bind fun b46 =>
    (if b46 = true then (
          .ok (true) : Res (Bool)) else (
          (opt (dAdd (.lst chain12) (.lst [.tup [t22, t23]]))).bind fun t47 =>
          (opt (dIx r6.1 (.int 0))).bind fun t48 =>
          (m_ending p4.1 t47 t48).bind fun t49 =>
          (opt (dIx t49 (.int 0))).bind fun t50 =>
          (opt (dNe t50 (.str [114, 111, 117, 110, 100]))).bind fun t51 =>
          (toB t51).bind fun b52 =>
          .ok (b52) : Res (Bool))).bind fun b53 =>
    if b53 = true then (
      .ok (.ret (.bl false)))
    else (
      .ok (.next (r20.2))))
theorem e_law_b1 (u0 u13 u14 u15 u16 : Option D) (u2 u3 u4 u5 u6 u7 u8 u9 u10 u11 u12 : Option D) (d : D) (s : D) : Sim (m_law_b1  d s) ((opt (bindT (.name 2) d [u0, some s, u2, u3, u4, u5, u6, u7, u8, u9, u10, u11, u12, u13, u14, u15, u16])).bind (sSeq (sAsg (.tup [.name 3, .name 4, .name 5]) (eFn [.io] v__law_course [.io 1])) (sSeq (sSet 6 (eFn [.io, .brw] v__law_draw [.io 1, .bor (.slot 3)])) (sSeq (sSet 7 (eFn [.io, .fz] v__law_names [.io 1, .val (eVar 3)])) (sSeq (sSet 8 (eLC (eRng [.val (eBin dSub (.slot 3) (.ex (eC (.int 1))))]) [14] (.name 14) tYesE (eTup [.val (eBin dIx (.slot 7) (.slot 14)), .val (eBin dIx (.slot 7) (.ex (eBin dAdd (.slot 14) (.ex (eC (.int 1))))))]))) (sSeq (sSet 9 (eLC (eIt (eVar 5)) [15, 16] (.tup [.name 15, .name 16]) (eTB (eBin dLt (.ex (eBin dIx (.slot 7) (.slot 15))) (.ex (eBin dIx (.slot 7) (.slot 16))))) (eTup [.val (eVar 15), .val (eVar 16)]))) (sSeq (sSet 10 (eFn [.io, .brw] v__law_draw [.io 1, .bor (.slot 3)])) (sSeq (sSet 11 (eTup [.val (eBin dIx (.slot 7) (.ex (eBin dSub (.slot 3) (.ex (eC (.int 1)))))), .val (eBin dIx (.slot 7) (.slot 10))])) (sSeq (sFor (eIt (eLst [.val (eVar 5), .val (eVar 9), .val (eVar 8), .val (eBin dAdd (.slot 8) (.ex (eLst [.val (eVar 11)]))), .val (eBin dAdd (.slot 9) (.ex (eLst [.val (eVar 11)]))), .val (eBin dAdd (.ex (eSl (.slot 5) (some (eC (.int 1))) none)) (.ex (eSl (.slot 5) none (some (eC (.int 1)))))), .val (eLst [])])) (.name 12) (sIf (eNot (eTru (.ex (eFn [.fz, .brw, .fz] v__law_asks [.val (eVar 3), .bor (.ex (eSl (.slot 12) none (some (eC (.int 60))))), .val (eVar 6)])))) (sRet (eC (.bl false))) sNil)) (sSeq (sIf (eOr (eNot (eTru (.ex (eFn [.fz, .brw, .fz] v__law_asks [.val (eVar 3), .bor (.slot 8), .val (eBin dIx (.slot 7) (.ex (eC (.int 0))))])))) (eNot (eTru (.ex (eFn [.fz, .brw, .fz] v__law_asks [.val (eVar 3), .bor (.ex (eBin dAdd (.slot 8) (.ex (eLst [.val (eVar 11)])))), .val (eBin dIx (.slot 7) (.ex (eC (.int 0))))]))))) (sRet (eC (.bl false))) sNil) (sIf (eOr (eTB (eBin dNe (.ex (eBin dIx (.ex (eFn [.brw, .brw, .fz] v_ending [.bor (.slot 3), .bor (.slot 8), .val (eBin dIx (.slot 7) (.ex (eC (.int 0))))])) (.ex (eC (.int 0))))) (.ex (eC (.str [101, 110, 100, 115]))))) (eTB (eBin dNe (.ex (eBin dIx (.ex (eFn [.brw, .brw, .fz] v_ending [.bor (.slot 3), .bor (.ex (eBin dAdd (.slot 8) (.ex (eLst [.val (eVar 11)])))), .val (eBin dIx (.slot 7) (.ex (eC (.int 0))))])) (.ex (eC (.int 0))))) (.ex (eC (.str [114, 111, 117, 110, 100])))))) (sRet (eC (.bl false))) sNil))))))))))) (QS RR0 (P_law_1 u0 u13 u14 u15 u16)) := by
  unfold m_law_b1
  and_intros
  refine Sim.same fun _ => ?_
  refine Sim.bind (e__law_course s) ?_
  rintro r3 _ rfl
  and_intros
  refine Sim.same fun p4 => ?_
  refine Sim.app ?_
  and_intros
  refine Sim.same fun _ => ?_
  refine Sim.bind (sim_draw r3.2 p4.1) ?_
  rintro r5 _ rfl
  and_intros
  refine Sim.app ?_
  and_intros
  refine Sim.same fun _ => ?_
  refine Sim.bind (e__law_names r5.2 p4.1) ?_
  rintro r6 _ rfl
  and_intros
  refine Sim.app ?_
  and_intros
  refine Sim.same fun t7 => ?_
  refine Sim.same fun l8 => ?_
  refine Sim.same fun _ => ?_
  refine Sim.bind (sim_map (fun d => e_law_c2 ..)) ?_
  rintro chain12 _ rfl
  and_intros
  refine Sim.app ?_
  and_intros
  refine Sim.same fun l13 => ?_
  refine Sim.same fun _ => ?_
  refine Sim.bind (sim_fil (fun d => e_law_c3 ..)) ?_
  rintro forward19 _ rfl
  and_intros
  refine Sim.app ?_
  and_intros
  refine Sim.same fun _ => ?_
  refine Sim.bind (sim_draw r6.2 p4.1) ?_
  rintro r20 _ rfl
  and_intros
  refine Sim.app ?_
  and_intros
  refine Sim.same fun t21 => ?_
  refine Sim.same fun t22 => ?_
  refine Sim.same fun t23 => ?_
  refine Sim.app ?_
  and_intros
  refine Sim.same fun t24 => ?_
  refine Sim.same fun t25 => ?_
  refine Sim.same fun t26 => ?_
  refine Sim.same fun t27 => ?_
  refine Sim.same fun t28 => ?_
  refine Sim.same fun l29 => ?_
  refine Sim.bind (sim_forB (P := P_law_4 p4.1 r5.1 u0 (some r20.2) (some d) (some p4.2.1) (some p4.2.2) (some r6.1) (some (.lst chain12)) (some (.lst forward19)) (some r20.1) (some (.tup [t22, t23])) u13 u14 u15 u16) (RR := RR0) (fun d s ρ h => ?_) ?_) ?_
  · obtain ⟨u12, rfl⟩ := h; exact e_law_b4 ..
  · exact ⟨_, rfl⟩
  intro r fl hfl
  refine sim_aftL hfl (fun s33 ρ h => ?_)
  obtain ⟨u12, rfl⟩ := h
  and_intros
  refine Sim.same fun t34 => ?_
  refine Sim.bind (e__law_asks p4.1 (.lst chain12) t34) ?_
  rintro t35 _ rfl
  and_intros
  refine Sim.same fun b36 => ?_
  first | refine Sim.bind (P := fun a b => b = (a, [u0, some r20.2, some d, some p4.1, some p4.2.1, some p4.2.2, some r5.1, some r6.1, some (.lst chain12), some (.lst forward19), some r20.1, some (.tup [t22, t23]), u12, u13, u14, u15, u16])) (Sim.ite ?_ ?_) ?_ | refine Sim.bindR (P := fun a b => b = (a, [u0, some r20.2, some d, some p4.1, some p4.2.1, some p4.2.2, some r5.1, some r6.1, some (.lst chain12), some (.lst forward19), some r20.1, some (.tup [t22, t23]), u12, u13, u14, u15, u16])) (Sim.ite ?_ ?_) ?_
  · exact ⟨_, rfl, rfl⟩
  · refine Sim.same fun t37 => ?_
    refine Sim.same fun t38 => ?_
    refine Sim.bind (e__law_asks p4.1 t37 t38) ?_
    rintro t39 _ rfl
    and_intros
    refine Sim.same fun b40 => ?_
    exact ⟨_, rfl, rfl⟩
  rintro b41 _ rfl
  and_intros
  refine Sim.ite ?_ ?_
  · refine Sim.app ?_
    and_intros
    exact fSr rfl
  · refine Sim.app ?_
    and_intros
    refine Sim.app ?_
    and_intros
    refine Sim.same fun t42 => ?_
    refine Sim.bind (e_ending p4.1 (.lst chain12) t42) ?_
    rintro t43 _ rfl
    and_intros
    refine Sim.same fun t44 => ?_
    refine Sim.same fun t45 => ?_
    refine Sim.same fun b46 => ?_
    first | refine Sim.bind (P := fun a b => b = (a, [u0, some r20.2, some d, some p4.1, some p4.2.1, some p4.2.2, some r5.1, some r6.1, some (.lst chain12), some (.lst forward19), some r20.1, some (.tup [t22, t23]), u12, u13, u14, u15, u16])) (Sim.ite ?_ ?_) ?_ | refine Sim.bindR (P := fun a b => b = (a, [u0, some r20.2, some d, some p4.1, some p4.2.1, some p4.2.2, some r5.1, some r6.1, some (.lst chain12), some (.lst forward19), some r20.1, some (.tup [t22, t23]), u12, u13, u14, u15, u16])) (Sim.ite ?_ ?_) ?_
    · exact ⟨_, rfl, rfl⟩
    · refine Sim.same fun t47 => ?_
      refine Sim.same fun t48 => ?_
      refine Sim.bind (e_ending p4.1 t47 t48) ?_
      rintro t49 _ rfl
      and_intros
      refine Sim.same fun t50 => ?_
      refine Sim.same fun t51 => ?_
      refine Sim.same fun b52 => ?_
      exact ⟨_, rfl, rfl⟩
    rintro b53 _ rfl
    and_intros
    refine Sim.ite ?_ ?_
    · refine Sim.app ?_
      and_intros
      exact fSr rfl
    · refine Sim.app ?_
      and_intros
      exact fSn ⟨_, _, _, _, _, _, _, _, _, _, _, rfl⟩
def m_law (script : D) : Res (D) := noexn (
  (m__law_feed script).bind fun feed1 =>
  (opt (rngOf [.int 2])).bind fun l2 =>
  (forB l2 (feed1) m_law_b1).bind fun r => aftF r fun s54 =>
  (m_ending (.int 5) (.lst [.tup [.int 0, .int 1], .tup [.int 1, .int 2], .tup [.int 0, .int 2], .tup [.int 2, .int 3], .tup [.int 4, .int 4]]) (.int 0)).bind fun told55 =>
  (opt (dEq told55 (.tup [.str [101, 110, 100, 115], .lst [.int 3, .int 2, .int 1, .int 0, .int (-1)]]))).bind fun t56 =>
  (toB t56).bind fun b57 =>
  (if b57 = true then (
    (m_ending (.int 2) (.lst [.tup [.int 0, .int 1], .tup [.int 1, .int 1]]) (.int 0)).bind fun t58 =>
    (opt (dIx t58 (.int 0))).bind fun t59 =>
    (opt (dEq t59 (.str [114, 111, 117, 110, 100]))).bind fun t60 =>
    .ok (t60) : Res (D)) else (
    .ok (.bl false) : Res (D))).bind fun t61 =>
  .ok t61)
theorem e_law (script : D) : Sim (m_law script) (v_law [script]) (fun r q => q = (r, [])) := by
  unfold m_law v_law
  refine Sim.noexn (sim_fn (RR := RR0) (os := fun v : D => (v, ([] : List D))) (E := [some script, none, none, none, none, none, none, none, none, none, none, none, none, none, none, none, none]) rfl rr0 ?_)
  unfold b_law
  and_intros
  refine Sim.bind (e__law_feed script) ?_
  rintro feed1 _ rfl
  and_intros
  refine Sim.app ?_
  and_intros
  refine Sim.same fun l2 => ?_
  refine Sim.bind (sim_forB (P := P_law_1 (some script) none none none none) (RR := RR0) (fun d s ρ h => ?_) ?_) ?_
  · obtain ⟨u2, u3, u4, u5, u6, u7, u8, u9, u10, u11, u12, rfl⟩ := h; exact e_law_b1 ..
  · exact ⟨_, _, _, _, _, _, _, _, _, _, _, rfl⟩
  intro r fl hfl
  refine sim_aftF hfl (fun s54 ρ h => ?_)
  obtain ⟨u2, u3, u4, u5, u6, u7, u8, u9, u10, u11, u12, rfl⟩ := h
  and_intros
  refine Sim.bind (e_ending (.int 5) (.lst [.tup [.int 0, .int 1], .tup [.int 1, .int 2], .tup [.int 0, .int 2], .tup [.int 2, .int 3], .tup [.int 4, .int 4]]) (.int 0)) ?_
  rintro told55 _ rfl
  and_intros
  refine Sim.app ?_
  and_intros
  refine Sim.same fun t56 => ?_
  refine Sim.same fun b57 => ?_
  first | refine Sim.bind (P := fun a b => b = (a, [some script, some s54, u2, u3, u4, u5, u6, u7, u8, u9, u10, u11, u12, some told55, none, none, none])) (Sim.ite ?_ ?_) ?_ | refine Sim.bindR (P := fun a b => b = (a, [some script, some s54, u2, u3, u4, u5, u6, u7, u8, u9, u10, u11, u12, some told55, none, none, none])) (Sim.ite ?_ ?_) ?_
  · refine Sim.bind (e_ending (.int 2) (.lst [.tup [.int 0, .int 1], .tup [.int 1, .int 1]]) (.int 0)) ?_
    rintro t58 _ rfl
    and_intros
    refine Sim.same fun t59 => ?_
    refine Sim.same fun t60 => ?_
    exact ⟨_, rfl, rfl⟩
  · exact ⟨_, rfl, rfl⟩
  rintro t61 _ rfl
  and_intros
  exact fR rfl
end
end G_k83

set_option Elab.async false
set_option linter.all false
set_option maxRecDepth 100000
set_option maxHeartbeats 2000000
namespace G_k83
open PySem PySem.Spec PyProof.Rows L2 VL VL.Emb
abbrev em (l : List Int) : D := .lst (l.map emb)
abbrev Mv := Int × Int
abbrev ev (l : List Mv) : D := .lst (l.map emb)
theorem feed_ok (ns : List Int) : m__law_feed (.scr ns) = .ok (fd ns 0 0 1) := by simp [m__law_feed, fd]
def isI : D → Bool
  | .int _ => true
  | _ => false
def tyB (d : D) : Bool := (tyD d).isSome
theorem lwhole_ok {d : D} (h : tyB d = true) : m__law_is_whole d = .ok (.bl (isI d)) := by
  cases d <;> first | (cases h; done) | simp [m__law_is_whole, tyD, isiB, isI]
theorem ints_of : ∀ {l : List D}, l.all isI = true → ∃ ns : List Int, l = ns.map emb
  | [], _ => ⟨[], rfl⟩
  | d :: l, h => by
    simp only [List.all_cons, Bool.and_eq_true] at h
    obtain ⟨ns, e⟩ := ints_of h.2
    cases d <;> first | (cases h.1; done) | skip
    rename_i i
    exact ⟨i :: ns, by rw [e]; rfl⟩
theorem all_int (ns : List Int) : (ns.map (emb : Int → D)).all isI = true := by
  rw [List.all_map, List.all_eq_true]; intro x _; rfl
theorem same_ok (a b : Bool) : m__law_same (.bl a) (.bl b) = .ok (.bl (a == b)) := by
  have t : isiB "bool" "bool" = true := by decide
  simp [m__law_same, t]
theorem names_ok {f : D} {n : Int} (hf : Feed f) (h0 : 0 ≤ n) (h1 : n ≤ 20) : Post (m__law_names f (.int n)) (fun r => ∃ l : List Int, r.1 = em l ∧ l.length = n.toNat ∧ (∀ x, x ∈ l ↔ 0 ≤ x ∧ x < n) ∧ Feed r.2) := by
  unfold m__law_names
  refine Post.noexn ?_
  have rg := rngI_1 (j := n) (by omega) (by omega)
  simp only [rg, optS, Res.bind_ok]
  refine Post.bind (post_forN (I := fun ds (s : D × D) => ∃ (k : Nat) (l : List Int) (f : D), k ≤ n.toNat ∧ ds = (ups (k : Int) (n.toNat - k)).map emb ∧ s = (f, em l) ∧ Feed f ∧ l.length = k ∧ ∀ x, x ∈ l ↔ 0 ≤ x ∧ x < k) ?_ ⟨0, [], f, by omega, by simp, rfl, hf, rfl, by simp⟩) ?_
  · rintro d ds s ⟨k, l, f, hk, e, rfl, hf, hl, hm⟩
    by_cases hkn : n.toNat - k = 0
    · rw [hkn] at e; cases e
    obtain ⟨m, em1⟩ : ∃ m, n.toNat - k = m + 1 := ⟨n.toNat - k - 1, by omega⟩
    rw [em1] at e
    simp only [ups, List.map_cons, List.cons.injEq] at e
    obtain ⟨rfl, rfl⟩ := e
    unfold m__law_names_b1
    simp only [emb_int, dAdd_int, optS, Res.bind_ok]
    refine Post.draw hf (by omega) (by omega) fun r f1 hf1 r0 r1 => ?_
    have a1 : dAdd (.lst ((l.take r.toNat).map emb)) (.lst [.int (k : Nat)]) = some (em (l.take r.toNat ++ [(k : Int)])) := dAdd_one rfl (by simp; omega)
    have a2 : dAdd (em (l.take r.toNat ++ [(k : Int)])) (em (l.drop r.toNat)) = some (em ((l.take r.toNat ++ [(k : Int)]) ++ l.drop r.toNat)) := dAdd_lsts (by simp; omega)
    simp only [toI_int, Res.bind_ok, dSlice_emb, cut_to r0, cut_from r0, optS, a1, a2]
    refine ⟨_, rfl, k + 1, _, f1, by omega, by rw [show n.toNat - (k + 1) = m by omega]; congr 1, rfl, hf1, by simp; omega, fun x => ?_⟩
    have t := List.take_append_drop r.toNat l
    have : x ∈ l ↔ x ∈ l.take r.toNat ∨ x ∈ l.drop r.toNat := by conv => lhs; rw [← t]
                                                                 exact List.mem_append
    simp only [List.mem_append, List.mem_singleton]
    constructor
    · rintro ((h | h) | h)
      · have := (hm x).mp (this.mpr (.inl h)); omega
      · omega
      · have := (hm x).mp (this.mpr (.inr h)); omega
    · intro h
      by_cases hx : x = k
      · exact .inl (.inr hx)
      · rcases this.mp ((hm x).mpr (by omega)) with h | h
        · exact .inl (.inl h)
        · exact .inr h
  · rintro _ ⟨k, l, f, hk, e, rfl, hf, hl, hm⟩
    have : n.toNat - k = 0 := by
      have := congrArg List.length e
      simp at this; omega
    have e : (k : Int) = n := by omega
    exact ⟨_, rfl, l, rfl, by omega, by rw [e] at hm; exact hm, hf⟩
structure Crs (n : Int) (ow : Txt) (mv : List Mv) : Prop where
  n0 : 1 ≤ n
  n1 : n ≤ 20
  ol : ow.length = n.toNat
  oc : ∀ c ∈ ow, c = 104 ∨ c = 112
  ml : mv.length ≤ 60
  mr : ∀ p ∈ mv, (0 ≤ p.1 ∧ p.1 < n) ∧ (0 ≤ p.2 ∧ p.2 < n)
theorem course_ok {f : D} (hf : Feed f) : Post (m__law_course f) (fun r => ∃ n ow mv, r.1 = .tup [.int n, .str ow, ev mv] ∧ Crs n ow mv ∧ Feed r.2) := by
  have j1 : ∀ (f : D) (n many : Int), Feed f → 1 ≤ n → n ≤ 20 → 0 ≤ many → many ≤ 60 → Post (m__law_course_j1 f (.int n) (.int many)) (fun r => ∃ n ow mv, r.1 = .tup [.int n, .str ow, ev mv] ∧ Crs n ow mv ∧ Feed r.2) := by
    intro f n many hf n0 n1 m0 m1
    unfold m__law_course_j1
    have rg := rngI_1 (j := n) (by omega) (by omega)
    have rg2 := rngI_1 (j := many) (by omega) (by omega)
    simp only [rg, optS, Res.bind_ok]
    rw [lenG_ok (by simp; omega)]
    simp only [Res.bind_ok]
    refine Post.bind (post_mapT (α := Txt) (I := Feed) (T := fun t => ∃ c, t = [c] ∧ (c = 104 ∨ c = 112)) (fun d _ f hf => ?_) hf) ?_
    · unfold m__law_course_c2
      refine Post.draw hf (by omega) (by omega) fun r f1 h1 r0 r1 => ?_
      have e := ixS (p := [104, 112]) (x := r) r0 (by simpa using r1) (by simp)
      simp only [e, optS, Res.bind_ok]
      refine ⟨_, rfl, ⟨_, rfl, _, rfl, ?_⟩, h1⟩
      rcases (show r = 0 ∨ r = 1 by omega) with rfl | rfl
      · exact .inl rfl
      · exact .inr rfl
    · rintro ⟨_, f1⟩ ⟨cs, rfl, hl, hc, h1⟩
      have h1 : Feed f1 := h1
      obtain ⟨ow, e1, e2, e3⟩ := join1 (P := fun c => c = 104 ∨ c = 112) (out := cs.map (emb : Txt → D)) (fun y hy => by
        obtain ⟨t, ht, rfl⟩ := List.mem_map.mp hy
        obtain ⟨c, rfl, h⟩ := hc t ht
        exact ⟨c, rfl, h⟩) (by simp [hl]; omega)
      simp only [e1, optS, Res.bind_ok, h1.cell, ckB_true]
      refine Post.bind (names_ok h1 (by omega) n1) ?_
      rintro ⟨_, f2⟩ ⟨nm, rfl, nl, nmem, h2⟩
      refine Post.draw h2 (by omega) (by omega) fun q f3 h3 q0 q1 => ?_
      simp only [dEq_int, rg2, optS, Res.bind_ok]
      refine Post.bind (post_forN (I := fun ds (s : D × D) => ∃ (mv : List Mv) (f : D), s = (f, ev mv) ∧ Feed f ∧ mv.length + ds.length ≤ 60 ∧ ∀ p ∈ mv, (0 ≤ p.1 ∧ p.1 < n) ∧ (0 ≤ p.2 ∧ p.2 < n)) ?_ ⟨[], f3, rfl, h3, by simp; omega, by simp⟩) ?_
      · rintro d ds s ⟨mv, f, rfl, hf, hl2, hm⟩
        simp only [List.length_cons] at hl2
        unfold m__law_course_b3
        refine Post.draw hf (by omega) (by omega) fun i f4 h4 i0 i1 => ?_
        refine Post.draw h4 (by omega) (by omega) fun j f5 h5 j0 j1 => ?_
        have j4 : ∀ i j : Int, 0 ≤ i → i < n → 0 ≤ j → j < n → Post (m__law_course_j4 f5 (em nm) (.bl (q == 0)) (ev mv) (.int i) (.int j)) (fun s => ∃ (mv : List Mv) (f : D), s = (f, ev mv) ∧ Feed f ∧ mv.length + ds.length ≤ 60 ∧ ∀ p ∈ mv, (0 ≤ p.1 ∧ p.1 < n) ∧ (0 ≤ p.2 ∧ p.2 < n)) := by
          intro i j i0 i1 j0 j1
          have x1 := ixI (l := nm) (k := i) i0 (by omega)
          have x2 := ixI (l := nm) (k := j) j0 (by omega)
          have mm : ∀ k : Int, 0 ≤ k → k < n → 0 ≤ nm.getD k.toNat 0 ∧ nm.getD k.toNat 0 < n := fun k k0 k1 => by
            rw [List.getD_eq_getElem?_getD, List.getElem?_eq_getElem (by omega)]
            exact (nmem _).mp (List.getElem_mem _)
          have ap := mAppend_emb (a := mv) (x := ((nm.getD i.toNat 0, nm.getD j.toNat 0) : Mv)) (d := .tup [.int (nm.getD i.toNat 0), .int (nm.getD j.toNat 0)]) rfl (by omega)
          simp only [m__law_course_j4, dNe_int, optS, Res.bind_ok, toB_bl, truD_bl, ite_tB, toL_lst, x1, x2, ap]
          split
          · refine ⟨_, rfl, mv ++ [(nm.getD i.toNat 0, nm.getD j.toNat 0)], f5, rfl, h5, by simp; omega, fun p hp => ?_⟩
            rcases List.mem_append.mp hp with hp | hp
            · exact hm p hp
            · rw [List.mem_singleton] at hp; subst hp
              exact ⟨mm i i0 i1, mm j j0 j1⟩
          · exact ⟨_, rfl, mv, f5, rfl, h5, by omega, hm⟩
        simp only [truD_bl, optS, Res.bind_ok, dGt_int, toB_bl, ite_Bf]
        exact Post.ite (fun _ => j4 j i j0 j1 i0 i1) (fun _ => j4 i j i0 i1 j0 j1)
      · rintro _ ⟨mv, f, rfl, hf, hl2, hm⟩
        exact ⟨_, rfl, n, ow, mv, rfl, ⟨n0, n1, by rw [e2]; simp [hl], e3, by simpa using hl2, hm⟩, hf⟩
  unfold m__law_course
  refine Post.noexn ?_
  refine Post.draw hf (by omega) (by omega) fun a f1 h1 a0 a1 => ?_
  simp only [dAdd_int, optS, Res.bind_ok, dMul_in (show (2 : Int).natAbs < 18446744073709551616 by decide)]
  refine Post.draw h1 (by omega) (by omega) fun b f2 h2 b0 b1 => ?_
  refine Post.draw h2 (by omega) (by omega) fun c f3 h3 c0 c1 => ?_
  simp only [dEq_int, optS, Res.bind_ok, toB_bl]
  refine Post.ite (fun _ => ?_) (fun _ => j1 f3 _ _ h3 (by omega) (by omega) (by omega) (by omega))
  refine Post.draw h3 (by omega) (by omega) fun d f4 h4 d0 d1 => ?_
  simp only [dAdd_int, optS, Res.bind_ok]
  refine Post.draw h4 (by omega) (by omega) fun e f5 h5 e0 e1 => ?_
  simp only [dAdd_int, optS, Res.bind_ok]
  exact j1 f5 _ _ h5 (by omega) (by omega) (by omega) (by omega)
def outs (mv : List Mv) (s : Int) : List Int := (mv.filter fun p => decide (p.1 = s)).map (·.2)
theorem mem_outs {mv : List Mv} {s j : Int} : j ∈ outs mv s ↔ (s, j) ∈ mv := by
  unfold outs
  simp only [List.mem_map, List.mem_filter, decide_eq_true_eq]
  constructor
  · rintro ⟨⟨a, b⟩, ⟨h, rfl⟩, rfl⟩; exact h
  · intro h; exact ⟨(s, j), ⟨h, rfl⟩, rfl⟩
theorem outs_len {mv : List Mv} {s : Int} : (outs mv s).length ≤ mv.length := by
  unfold outs; rw [List.length_map]; exact List.length_filter_le _ _
theorem whole_ok {d : D} (h : tyB d = true) : m_is_whole d = .ok (.bl (isI d)) := by
  cases d <;> first | (cases h; done) | simp [m_is_whole, tyD, isiB, isI]
theorem wholes_ok {l : List D} (h : ∀ d ∈ l, tyB d = true) : m_are_wholes (.lst l) = .ok (.bl (l.all isI)) := by
  have ty : isiB "list" "list" = true := by decide
  have w := forB_find (R := D) (l := l) (g := fun d : D => d) (s := ()) (f := m_are_wholes_b1) (c := fun d => !isI d) (v := fun _ => D.bl false) (fun d hd => by
    simp only [m_are_wholes_b1, whole_ok (h d hd), Res.bind_ok, truD_bl, optS, ite_ok])
  rw [List.map_id'] at w
  simp only [m_are_wholes, fIsi_two, tyD_lst, Option.map_some, ty, optS, Res.bind_ok, truD_bl, Bool.not_true, Bool.false_eq_true, if_false, itD_lst, w]
  cases hf : l.find? (fun d => !isI d) with
  | none =>
    have : l.all isI = true := by
      rw [List.find?_eq_none] at hf
      rw [List.all_eq_true]; intro x hx; simpa using hf x hx
    rw [this]; rfl
  | some x =>
    have h1 := List.find?_some hf
    have h2 := List.mem_of_find?_eq_some hf
    have : l.all isI = false := by
      rw [Bool.eq_false_iff]; intro ha
      rw [List.all_eq_true] at ha
      rw [ha x h2] at h1; cases h1
    rw [this]; rfl
theorem lwholes_ok {l : List D} (hl : l.length ≤ 1000) (h : ∀ d ∈ l, tyB d = true) : m__law_are_wholes (.lst l) = .ok (.bl (l.all isI)) := by
  have ty : isiB "list" "list" = true := by decide
  have f := mFil_map (l := l) (g := fun d : D => d) (f := m__law_are_wholes_c1) (h := fun d => d) (c := isI) (fun d hd => by
    simp only [m__law_are_wholes_c1, lwhole_ok (h d hd), Res.bind_ok, truD_bl, optS, ite_ok])
  rw [List.map_id', List.map_id'] at f
  simp only [m__law_are_wholes, fIsi_two, tyD_lst, Option.map_some, ty, optS, Res.bind_ok, toB_bl, if_true, itD_lst, lenG_ok (show l.length ≤ 16777216 by omega), f, fLen_lst, dEq_int, nc_bl, noexn_ok]
  congr 2
  rw [Bool.eq_iff_iff, List.all_eq_true]
  simp only [beq_iff_eq]
  constructor
  · intro e
    exact List.length_filter_eq_length_iff.mp (by omega)
  · intro e
    rw [List.length_filter_eq_length_iff.mpr e]
def inM (mv : List Mv) (p : Mv) : Bool := decide (p ∈ mv)
def stp (mv : List Mv) (l : List Int) (k : Int) : Bool := inM mv (l.getD (k - 1).toNat 0, l.getD k.toNat 0)
def runB (mv : List Mv) (s : Int) (l : List Int) : Bool := (decide (l.length ≠ 0) && (l.getD 0 0 == s)) && (ups 1 (l.length - 1)).all (stp mv l)
theorem notin_mv {mv : List Mv} {a b : Int} : dNotIn (.tup [.int a, .int b]) (ev mv) = some (.bl (!inM mv (a, b))) := by
  have := dNotIn_emb (α := Int × Int) (x := (a, b)) (l := mv) (by decide) ⟨trivial, trivial⟩ fun _ _ => ⟨trivial, trivial⟩
  refine Eq.trans this ?_
  unfold inM; congr
theorem run_wh {mv : List Mv} {s : Int} {l : List Int} (h : l.length ≤ 1000) (w : m_are_wholes (em l) = .ok (.bl true)) : m_is_run (ev mv) (.int s) (em l) = .ok (.bl (runB mv s l)) := by
  have rg := rngI_2 (i := 1) (j := (l.length : Int)) (by omega) (by omega) (by omega) (by omega)
  have e0 : (((l.length : Nat) : Int) == 0) = !decide (l.length ≠ 0) := by rw [Bool.eq_iff_iff]; simp
  simp only [m_is_run, w, Res.bind_ok, truD_bl, optS, Bool.not_true, Bool.false_eq_true, if_false, fLen_lst, List.length_map, dEq_int, toB_bl, e0]
  by_cases hl : l.length = 0
  · have : l = [] := List.length_eq_zero_iff.mp hl
    subst this; rfl
  have x0 := ixI (l := l) (k := 0) (by omega) (by omega)
  have en : (((l.length : Int) - 1).toNat) = l.length - 1 := by omega
  have w := forB_find (R := D) (l := ups 1 (l.length - 1)) (g := (emb : Int → D)) (s := ()) (f := m_is_run_b1 (ev mv) (em l)) (c := fun k => !stp mv l k) (v := fun _ => D.bl false) (fun k hk => by
    rw [mem_ups] at hk
    have x1 := ixI (l := l) (k := k - 1) (by omega) (by omega)
    have x2 := ixI (l := l) (k := k) (by omega) (by omega)
    cases hb : stp mv l k <;> (unfold stp at hb; simp only [m_is_run_b1, emb_int, dSub_int, x1, x2, optS, Res.bind_ok, notin_mv, toB_bl, hb]; rfl))
  simp only [hl, ne_eq, not_false_eq_true, decide_true, Bool.not_true, Bool.false_eq_true, if_false, x0, optS, Res.bind_ok, dNe_int, toB_bl, rg, en, w, runB, Bool.true_and]
  rw [show (0 : Int).toNat = 0 from rfl]
  by_cases hs : l.getD 0 0 = s
  · simp only [hs, bne_self_eq_false, Bool.false_eq_true, if_false, beq_self_eq_true, Bool.true_and]
    cases hf : (ups 1 (l.length - 1)).find? (fun k => !stp mv l k) with
    | none =>
      have : (ups 1 (l.length - 1)).all (stp mv l) = true := by
        rw [List.find?_eq_none] at hf
        rw [List.all_eq_true]; intro x hx; simpa using hf x hx
      rw [this]; rfl
    | some x =>
      have h1 := List.find?_some hf
      have h2 := List.mem_of_find?_eq_some hf
      have : (ups 1 (l.length - 1)).all (stp mv l) = false := by
        rw [Bool.eq_false_iff]; intro ha
        rw [List.all_eq_true] at ha
        rw [ha x h2] at h1; cases h1
      rw [this]; rfl
  · have h1 : (l.getD 0 0 != s) = true := by simp [bne_iff_ne]; simpa using hs
    have h2 : (l.getD 0 0 == s) = false := by rw [Bool.eq_false_iff]; simpa using hs
    have h3 : ¬ l[0]?.getD 0 = s := by rw [← List.getD_eq_getElem?_getD]; exact hs
    simp [h3]
theorem run_ne {mv : List Mv} {s : Int} {l : List Int} (h : runB mv s l = true) : l.length ≠ 0 := by
  unfold runB at h
  simp only [Bool.and_eq_true, decide_eq_true_eq] at h
  exact h.1.1
def lst0 (l : List Int) : Int := l.getD (l.length - 1) 0
theorem run_snoc {mv : List Mv} {s x : Int} {l : List Int} (h : runB mv s l = true) (hx : (lst0 l, x) ∈ mv) : runB mv s (l ++ [x]) = true := by
  have hn := run_ne h
  unfold runB at *
  simp only [Bool.and_eq_true, decide_eq_true_eq, List.all_eq_true] at h ⊢
  refine ⟨⟨by simp, ?_⟩, fun k hk => ?_⟩
  · rw [List.getD_eq_getElem?_getD, List.getElem?_append_left (by omega), ← List.getD_eq_getElem?_getD]; exact h.1.2
  · rw [mem_ups] at hk
    have hk : 1 ≤ k ∧ k ≤ l.length := by
      have : (l ++ [x]).length = l.length + 1 := by simp
      rw [this] at hk; omega
    unfold stp
    by_cases hkl : k = l.length
    · subst hkl
      rw [show (((l.length : Nat) : Int) - 1).toNat = l.length - 1 by omega, Int.toNat_natCast]
      rw [List.getD_eq_getElem?_getD, List.getElem?_append_left (by omega), ← List.getD_eq_getElem?_getD]
      rw [List.getD_eq_getElem?_getD (l := l ++ [x]), List.getElem?_append_right (by omega)]
      unfold inM; simpa [lst0] using hx
    · have := h.2 k (by rw [mem_ups]; omega)
      unfold stp at this
      rw [List.getD_eq_getElem?_getD, List.getElem?_append_left (by omega), ← List.getD_eq_getElem?_getD]
      rw [List.getD_eq_getElem?_getD (l := l ++ [x]), List.getElem?_append_left (by omega), ← List.getD_eq_getElem?_getD]
      exact this
theorem lst0_snoc {l : List Int} {x : Int} : lst0 (l ++ [x]) = x := by simp [lst0]
theorem lst0_mem {l : List Int} (h : l.length ≠ 0) : lst0 l ∈ l := by
  unfold lst0; rw [List.getD_eq_getElem?_getD, List.getElem?_eq_getElem (by omega)]; exact List.getElem_mem _
theorem outs_ok {mv : List Mv} {s : Int} (h : mv.length ≤ 1000) : m_led_to (ev mv) (.int s) = .ok (em (outs mv s)) := by
  have f : mFil (mv.map emb) (m_led_to_c1 (.int s)) = .ok ((outs mv s).map emb) := by
    unfold outs
    rw [List.map_map]
    exact mFil_map fun p _ => by
      simp only [m_led_to_c1, emb_pair, emb_int, un2_tup, Res.bind_ok, dEq_int, optS, toB_bl, beq_iff_eq, decide_eq_true_eq]
      split <;> rfl
  simp only [m_led_to, itD_lst, optS, Res.bind_ok, lenG_ok (show (mv.map (emb : Mv → D)).length ≤ 16777216 by simp; omega), f, noexn_ok]
inductive Wn (mv : List Mv) (s : Int) : Nat → Int → Prop where
  | z : Wn mv s 0 s
  | s {k : Nat} {p x : Int} : Wn mv s k p → (p, x) ∈ mv → Wn mv s (k + 1) x
def Lv (mv : List Mv) (s : Int) (k : Nat) (x : Int) : Prop := Wn mv s k x ∧ ∀ j < k, ¬ Wn mv s j x
section
variable {mv : List Mv} {s n : Int}
theorem Lv.uniq {j k : Nat} {x : Int} (a : Lv mv s j x) (b : Lv mv s k x) : j = k := by
  rcases Nat.lt_trichotomy j k with h | h | h
  · exact absurd a.1 (b.2 j h)
  · exact h
  · exact absurd b.1 (a.2 k h)
theorem Wn.lv {k : Nat} {x : Int} (w : Wn mv s k x) : ∃ j ≤ k, Lv mv s j x := by
  induction k using Nat.strongRecOn with
  | ind k ih =>
    by_cases h : ∃ j, j < k ∧ Wn mv s j x
    · obtain ⟨j, h1, h2⟩ := h
      obtain ⟨i, a, b⟩ := ih j h1 h2
      exact ⟨i, by omega, b⟩
    · exact ⟨k, Nat.le_refl _, w, fun j hj hw => h ⟨j, hj, hw⟩⟩
theorem Lv.pred {k : Nat} {x : Int} (h : Lv mv s (k + 1) x) : ∃ p, Lv mv s k p ∧ (p, x) ∈ mv := by
  obtain ⟨w, m⟩ := h
  cases w with
  | s w' e =>
    rename_i p
    refine ⟨p, ⟨w', fun j hj hw => m (j + 1) (by omega) (.s hw e)⟩, e⟩
theorem Lv.zero {x : Int} (h : Lv mv s 0 x) : x = s := by
  obtain ⟨w, _⟩ := h; cases w; rfl
theorem lv0 : Lv mv s 0 s := ⟨.z, fun j h => by omega⟩
theorem Lv.le {k : Nat} (hE : ∀ x, ¬ Lv mv s k x) : ∀ (d : Nat) (x : Int), ¬ Lv mv s (k + d) x
  | 0, x, h => hE x h
  | d + 1, x, h => by
    obtain ⟨p, hp, _⟩ := Lv.pred (k := k + d) h
    exact Lv.le hE d p hp
theorem Lv.rg {k : Nat} {x : Int} (hm : ∀ p ∈ mv, 0 ≤ p.2 ∧ p.2 < n) (h0 : 0 ≤ s ∧ s < n) (h : Lv mv s k x) : 0 ≤ x ∧ x < n := by
  obtain ⟨w, _⟩ := h
  cases w with
  | z => exact h0
  | s _ e => exact hm _ e
theorem nd_len {l : List Int} (nd : l.Nodup) (h : ∀ x ∈ l, 0 ≤ x ∧ x < n) : l.length ≤ n.toNat := by
  have := List.Nodup.length_le_of_subset nd (l₂ := ups 0 n.toNat) fun x hx => by
    have := h x hx
    exact mem_ups.mpr (by omega)
  simpa using this
theorem Lv.lt (hm : ∀ p ∈ mv, 0 ≤ p.2 ∧ p.2 < n) (h0 : 0 ≤ s ∧ s < n) : ∀ {k : Nat} {x : Int}, Lv mv s k x → k < n.toNat := by
  have key : ∀ (k : Nat) (x : Int), Lv mv s k x → ∃ l : List Int, l.length = k + 1 ∧ l.Nodup ∧ ∀ y ∈ l, ∃ i ≤ k, Lv mv s i y := by
    intro k
    induction k with
    | zero => intro x h; exact ⟨[x], rfl, by simp, fun y hy => by rw [List.mem_singleton.mp hy]; exact ⟨0, by omega, h⟩⟩
    | succ k ih =>
      intro x h
      obtain ⟨p, hp, _⟩ := h.pred
      obtain ⟨l, l1, l2, l3⟩ := ih p hp
      refine ⟨x :: l, by simp [l1], List.nodup_cons.mpr ⟨fun hx => ?_, l2⟩, fun y hy => ?_⟩
      · obtain ⟨i, i1, i2⟩ := l3 x hx
        have := h.uniq i2; omega
      · rcases List.mem_cons.mp hy with rfl | hy
        · exact ⟨k + 1, by omega, h⟩
        · obtain ⟨i, i1, i2⟩ := l3 y hy; exact ⟨i, by omega, i2⟩
  intro k x h
  obtain ⟨l, l1, l2, l3⟩ := key k x h
  have := nd_len (n := n) l2 fun y hy => by obtain ⟨i, _, hi⟩ := l3 y hy; exact hi.rg hm h0
  omega
end
abbrev OI := Option Int
structure En where
  x : Int
  po : OI
  l : Nat
abbrev dE (K : List En) : List (D × D) := K.map fun e => (D.int e.x, emb e.po)
def keys (K : List En) : List Int := K.map (·.x)
theorem look_K : ∀ (K : List En) (x : Int), lookD (dE K) (.int x) = (K.find? fun e => decide (e.x = x)).map fun e => emb e.po
  | [], x => rfl
  | e :: K, x => by
    have ih := look_K K x
    have kb : keyB (.int x) (.int e.x) = decide (e.x = x) := by
      have q : keyB (.int x) (.int e.x) = decide ((some (.inl e.x) : Option Key) = some (.inl x)) := rfl
      rw [q]
      by_cases h : e.x = x <;> simp [h]
    unfold lookD at ih ⊢
    show Option.map (fun x => x.snd) (List.find? (fun p => keyB (D.int x) p.fst) ((D.int e.x, emb e.po) :: dE K)) = _
    rw [List.find?_cons, List.find?_cons]
    dsimp only
    rw [kb]
    cases decide (e.x = x) with
    | true => rfl
    | false => exact ih
theorem find_in {K : List En} {e : En} (nd : (keys K).Nodup) (h : e ∈ K) : K.find? (fun z => decide (z.x = e.x)) = some e := by
  induction K with
  | nil => cases h
  | cons a K ih =>
    rw [keys, List.map_cons, List.nodup_cons] at nd
    rw [List.find?_cons]
    rcases List.mem_cons.mp h with rfl | h
    · simp
    · have : a.x ≠ e.x := fun z => nd.1 (by rw [z]; exact List.mem_map.mpr ⟨e, h, rfl⟩)
      rw [decide_eq_false this]
      exact ih nd.2 h
theorem look_in {K : List En} {e : En} (nd : (keys K).Nodup) (h : e ∈ K) : lookD (dE K) (.int e.x) = some (emb e.po) := by
  rw [look_K, find_in nd h]; rfl
theorem look_out {K : List En} {x : Int} (h : x ∉ keys K) : lookD (dE K) (.int x) = none := by
  rw [look_K, List.find?_eq_none.mpr fun e he => by
    have : e.x ≠ x := fun z => h (by rw [← z]; exact List.mem_map.mpr ⟨e, he, rfl⟩)
    simpa using this]; rfl
theorem notin_K {K : List En} {x : Int} : dNotInK (.int x) (.dct (dE K)) = some (.bl (!decide (x ∈ keys K))) := by
  have e0 : dNotInK (.int x) (.dct (dE K)) = some (.bl (!(lookD (dE K) (.int x)).isSome)) := rfl
  rw [e0]
  by_cases h : x ∈ keys K
  · obtain ⟨e, he, rfl⟩ := List.mem_map.mp h
    rw [look_K]
    have : (K.find? fun z => decide (z.x = e.x)).isSome = true := by
      rw [List.find?_isSome]; exact ⟨e, he, by simp⟩
    simp [this, h]
  · rw [look_out h]; simp [h]
theorem put_new {K : List En} {x : Int} {po : OI} {l : Nat} (h : x ∉ keys K) (hl : K.length < 1000) : setKR (.dct (dE K)) (.int x) (emb po) = .ok (.dct (dE (K ++ [⟨x, po, l⟩]))) := by
  unfold setKR
  dsimp only
  rw [if_pos ⟨rfl, by simp; omega⟩]
  congr 2
  unfold putD
  have : hasD (dE K) (.int x) = false := by
    have := look_out h
    unfold lookD at this
    unfold hasD
    rw [Option.map_eq_none_iff, List.find?_eq_none] at this
    rw [List.any_eq_false]
    exact this
  rw [this]
  simp [dE]
structure PI (mv : List Mv) (s n : Int) (L : Nat) (K : List En) (F : List Int) : Prop where
  nd : (keys K).Nodup
  lv : ∀ e ∈ K, Lv mv s e.l e.x ∧ e.l ≤ L + 1
  par : ∀ e ∈ K, (e.l = 0 ∧ e.po = none) ∨ ∃ p l, e.po = some p ∧ e.l = l + 1 ∧ (p, e.x) ∈ mv ∧ ∃ e' ∈ K, e'.x = p ∧ e'.l = l
  ord : K.Pairwise fun a b => a.l ≤ b.l
  full : ∀ x j, j ≤ L → Lv mv s j x → x ∈ keys K
  fo : ∀ x, x ∈ F ↔ ∃ e ∈ K, e.x = x ∧ e.l = L + 1
  fl : F.length ≤ K.length
section
variable {mv : List Mv} {s n : Int} {L : Nat} {K : List En} {F : List Int}
theorem klen (hm : ∀ p ∈ mv, 0 ≤ p.2 ∧ p.2 < n) (h0 : 0 ≤ s ∧ s < n) (nd : (keys K).Nodup) (lv : ∀ e ∈ K, Lv mv s e.l e.x) : K.length ≤ n.toNat := by
  have := nd_len (n := n) nd fun x hx => by
    obtain ⟨e, he, rfl⟩ := List.mem_map.mp hx
    exact (lv e he).rg hm h0
  simpa [keys] using this
theorem step_b3 {d x : Int} (n1 : n ≤ 100) (hm : ∀ p ∈ mv, 0 ≤ p.2 ∧ p.2 < n) (h0 : 0 ≤ s ∧ s < n) (hd : ∃ e ∈ K, e.x = d ∧ e.l = L) (hx : (d, x) ∈ mv) (p : PI mv s n L K F) : ∃ K' F', m_parents_from_b3 (.int d) (.int x) (.dct (dE K), em F) = .ok (.dct (dE K'), em F') ∧ PI mv s n L K' F' ∧ x ∈ keys K' ∧ (∀ e ∈ K, e ∈ K') ∧ K.length ≤ K'.length ∧ (F' = F ∨ K.length < K'.length) := by
  simp only [m_parents_from_b3, notin_K, optS, Res.bind_ok, toB_bl]
  by_cases h : x ∈ keys K
  · rw [if_neg (by simpa using h)]
    exact ⟨K, F, rfl, p, h, fun e he => he, Nat.le_refl _, .inl rfl⟩
  · rw [if_pos (by simpa using h)]
    have kl := klen hm h0 p.nd fun e he => (p.lv e he).1
    have fl := p.fl
    have pn : setKR (.dct (dE K)) (.int x) (.int d) = .ok (.dct (dE (K ++ [⟨x, some d, L + 1⟩]))) := put_new (po := some d) h (by omega)
    have ma := mAppend_emb (a := F) (x := x) (d := .int x) rfl (by omega)
    simp only [pn, Res.bind_ok, toL_lst, ma, optS]
    obtain ⟨e0, he0, ex, el⟩ := hd
    have new : Lv mv s (L + 1) x := ⟨.s (by rw [← ex, ← el]; exact (p.lv e0 he0).1.1) hx, fun j hj w => by
      obtain ⟨i, hi, hL⟩ := w.lv
      exact h (p.full x i (by omega) hL)⟩
    refine ⟨_, _, rfl, ⟨?_, ?_, ?_, ?_, ?_, ?_, by simp; omega⟩, ?_, fun e he => List.mem_append.mpr (.inl he), by simp, .inr (by simp)⟩
    · rw [keys, List.map_append, List.nodup_append]
      refine ⟨p.nd, by simp, fun a ha b hb => ?_⟩
      simp only [List.map_cons, List.map_nil, List.mem_singleton] at hb
      rw [hb]; intro z; exact h (by rw [← z]; exact ha)
    · intro e he
      rcases List.mem_append.mp he with he | he
      · exact p.lv e he
      · rw [List.mem_singleton.mp he]; exact ⟨new, Nat.le_refl _⟩
    · intro e he
      rcases List.mem_append.mp he with he | he
      · rcases p.par e he with q | ⟨a, l, q1, q2, q3, e', q4, q5⟩
        · exact .inl q
        · exact .inr ⟨a, l, q1, q2, q3, e', List.mem_append.mpr (.inl q4), q5⟩
      · rw [List.mem_singleton.mp he]
        exact .inr ⟨d, L, rfl, rfl, hx, e0, List.mem_append.mpr (.inl he0), ex, el⟩
    · rw [List.pairwise_append]
      refine ⟨p.ord, by simp, fun a ha b hb => ?_⟩
      rw [List.mem_singleton.mp hb]
      exact (p.lv a ha).2
    · intro y j hj hy
      have := p.full y j hj hy
      unfold keys at this ⊢
      rw [List.map_append]; exact List.mem_append.mpr (.inl this)
    · intro y
      rw [List.mem_append, p.fo y]
      constructor
      · rintro (⟨e, he, q⟩ | hy)
        · exact ⟨e, List.mem_append.mpr (.inl he), q⟩
        · rw [List.mem_singleton.mp hy]; exact ⟨_, List.mem_append.mpr (.inr List.mem_cons_self), rfl, rfl⟩
      · rintro ⟨e, he, q1, q2⟩
        rcases List.mem_append.mp he with he | he
        · exact .inl ⟨e, he, q1, q2⟩
        · rw [List.mem_singleton.mp he] at q1; exact .inr (by rw [← q1]; simp)
    · unfold keys; simp
theorem step_b2 (n1 : n ≤ 100) (hl : mv.length ≤ 1000) (hm : ∀ p ∈ mv, 0 ≤ p.2 ∧ p.2 < n) (h0 : 0 ≤ s ∧ s < n) {d : Int} : ∀ (O : List Int) (K : List En) (F : List Int), (∃ e ∈ K, e.x = d ∧ e.l = L) → (∀ x ∈ O, (d, x) ∈ mv) → PI mv s n L K F → ∃ K' F', forN (O.map emb) (.dct (dE K), em F) (m_parents_from_b3 (.int d)) = .ok (.dct (dE K'), em F') ∧ PI mv s n L K' F' ∧ (∀ x ∈ O, x ∈ keys K') ∧ (∀ e ∈ K, e ∈ K') ∧ K.length ≤ K'.length ∧ (F' = F ∨ K.length < K'.length)
  | [], K, F, _, _, p => ⟨K, F, rfl, p, by simp, fun e he => he, Nat.le_refl _, .inl rfl⟩
  | x :: O, K, F, hd, hO, p => by
    obtain ⟨K1, F1, e1, p1, x1, k1, l1, f1⟩ := step_b3 n1 hm h0 hd (hO x List.mem_cons_self) p
    obtain ⟨e0, a, b⟩ := hd
    obtain ⟨K2, F2, e2, p2, x2, k2, l2, f2⟩ := step_b2 n1 hl hm h0 O K1 F1 ⟨e0, k1 e0 a, b⟩ (fun y hy => hO y (List.mem_cons_of_mem _ hy)) p1
    refine ⟨K2, F2, by rw [List.map_cons, forN_cons, emb_int, e1, Res.bind_ok, e2], p2, fun y hy => ?_, fun e he => k2 e (k1 e he), by omega, ?_⟩
    · rcases List.mem_cons.mp hy with rfl | hy
      · obtain ⟨e, he, q⟩ := List.mem_map.mp x1
        exact List.mem_map.mpr ⟨e, k2 e he, q⟩
      · exact x2 y hy
    · rcases f1 with f1 | f1
      · rcases f2 with f2 | f2
        · exact .inl (by rw [f2, f1])
        · exact .inr (by omega)
      · exact .inr (by omega)
theorem step_b1 (n1 : n ≤ 100) (hl : mv.length ≤ 1000) (hm : ∀ p ∈ mv, 0 ≤ p.2 ∧ p.2 < n) (h0 : 0 ≤ s ∧ s < n) : ∀ (w : List Int) (K : List En) (F : List Int), (∀ d ∈ w, ∃ e ∈ K, e.x = d ∧ e.l = L) → PI mv s n L K F → ∃ K' F', forN (w.map emb) (.dct (dE K), em F) (m_parents_from_b2 (ev mv)) = .ok (.dct (dE K'), em F') ∧ PI mv s n L K' F' ∧ (∀ d ∈ w, ∀ x, (d, x) ∈ mv → x ∈ keys K') ∧ (∀ e ∈ K, e ∈ K') ∧ K.length ≤ K'.length ∧ (F' = F ∨ K.length < K'.length)
  | [], K, F, _, p => ⟨K, F, rfl, p, by simp, fun e he => he, Nat.le_refl _, .inl rfl⟩
  | d :: w, K, F, hd, p => by
    obtain ⟨K1, F1, e1, p1, x1, k1, l1, f1⟩ := step_b2 n1 hl hm h0 (outs mv d) K F (hd d List.mem_cons_self) (fun x hx => mem_outs.mp hx) p
    obtain ⟨K2, F2, e2, p2, x2, k2, l2, f2⟩ := step_b1 n1 hl hm h0 w K1 F1 (fun y hy => by
      obtain ⟨e, a, b⟩ := hd y (List.mem_cons_of_mem _ hy)
      exact ⟨e, k1 e a, b⟩) p1
    have e : m_parents_from_b2 (ev mv) (.int d) (.dct (dE K), em F) = .ok (.dct (dE K1), em F1) := by
      simp only [m_parents_from_b2, outs_ok (mv := mv) (s := d) hl, Res.bind_ok, itD_lst, optS, e1]
    refine ⟨K2, F2, by rw [List.map_cons, forN_cons, emb_int, e, Res.bind_ok, e2], p2, fun y hy x hx => ?_, fun e he => k2 e (k1 e he), by omega, ?_⟩
    · rcases List.mem_cons.mp hy with rfl | hy
      · obtain ⟨e, he, q⟩ := List.mem_map.mp (x1 x (mem_outs.mpr hx))
        exact List.mem_map.mpr ⟨e, k2 e he, q⟩
      · exact x2 y hy x hx
    · rcases f1 with f1 | f1
      · rcases f2 with f2 | f2
        · exact .inl (by rw [f2, f1])
        · exact .inr (by omega)
      · exact .inr (by omega)
structure WI (mv : List Mv) (s n : Int) (L : Nat) (K : List En) (w : List Int) : Prop where
  nd : (keys K).Nodup
  lv : ∀ e ∈ K, Lv mv s e.l e.x ∧ e.l ≤ L
  par : ∀ e ∈ K, (e.l = 0 ∧ e.po = none) ∨ ∃ p l, e.po = some p ∧ e.l = l + 1 ∧ (p, e.x) ∈ mv ∧ ∃ e' ∈ K, e'.x = p ∧ e'.l = l
  ord : K.Pairwise fun a b => a.l ≤ b.l
  full : ∀ x j, j ≤ L → Lv mv s j x → x ∈ keys K
  wv : ∀ x, x ∈ w ↔ ∃ e ∈ K, e.x = x ∧ e.l = L
structure Tr (mv : List Mv) (s n : Int) (K : List En) : Prop where
  nd : (keys K).Nodup
  lv : ∀ e ∈ K, Lv mv s e.l e.x
  par : ∀ e ∈ K, (e.l = 0 ∧ e.po = none) ∨ ∃ p l, e.po = some p ∧ e.l = l + 1 ∧ (p, e.x) ∈ mv ∧ ∃ e' ∈ K, e'.x = p ∧ e'.l = l
  ord : K.Pairwise fun a b => a.l ≤ b.l
  all : ∀ x j, Lv mv s j x → x ∈ keys K
theorem bfs (n1 : n ≤ 100) (hl : mv.length ≤ 1000) (hm : ∀ p ∈ mv, 0 ≤ p.2 ∧ p.2 < n) (h0 : 0 ≤ s ∧ s < n) : ∀ (N L : Nat) (K : List En) (w : List Int), (if w = [] then 1 else n.toNat - K.length + 2) ≤ N → WI mv s n L K w → ∃ K' d, whileB N (.dct (dE K), em w) m_parents_from_w1 (m_parents_from_b1 (ev mv)) = .ok (.next (.dct (dE K'), d)) ∧ Tr mv s n K'
  | 0, L, K, w, hN, p => by split at hN <;> omega
  | N + 1, L, K, w, hN, p => by
    unfold whileB
    have t : m_parents_from_w1 (.dct (dE K), em w) = .ok (!w.isEmpty) := by
      have : truD (em w) = some (!w.isEmpty) := by cases w <;> rfl
      simp only [m_parents_from_w1, this, optS, Res.bind_ok]
    rw [t, Res.bind_ok]
    cases w with
    | nil =>
      refine ⟨K, _, rfl, p.nd, fun e he => (p.lv e he).1, p.par, p.ord, fun x j hj => ?_⟩
      by_cases h : j ≤ L
      · exact p.full x j h hj
      · exfalso
        have := Lv.le (mv := mv) (s := s) (k := L) (fun y hy => by
          have := p.full y L (Nat.le_refl _) hy
          obtain ⟨e, he, rfl⟩ := List.mem_map.mp this
          have := (p.wv e.x).mpr ⟨e, he, rfl, ((p.lv e he).1.uniq hy)⟩
          cases this) (j - L) x
        rw [show L + (j - L) = j by omega] at this
        exact this hj
    | cons a w =>
      rw [if_neg (by simp)] at hN
      have kl := klen hm h0 p.nd fun e he => (p.lv e he).1
      obtain ⟨K1, F1, e1, p1, x1, k1, l1, f1⟩ := step_b1 (L := L) n1 hl hm h0 (a :: w) K [] (fun d hd => (p.wv d).mp hd) ⟨p.nd, fun e he => ⟨(p.lv e he).1, by have := (p.lv e he).2; omega⟩, p.par, p.ord, p.full, fun x => by
        constructor
        · intro h; cases h
        · rintro ⟨e, he, _, q⟩; have := (p.lv e he).2; omega, by simp⟩
      have e : m_parents_from_b1 (ev mv) (.dct (dE K), em (a :: w)) = .ok (.next (.dct (dE K1), em F1)) := by
        have e1 : forN ((a :: w).map emb) (.dct (dE K), .lst []) (m_parents_from_b2 (ev mv)) = .ok (.dct (dE K1), em F1) := e1
        simp only [m_parents_from_b1, itD_lst, optS, Res.bind_ok, e1]
      rw [if_pos (by rfl), e, Res.bind_ok]
      have kl1 := klen hm h0 p1.nd fun e he => (p1.lv e he).1
      refine bfs n1 hl hm h0 N (L + 1) K1 F1 ?_ ⟨p1.nd, p1.lv, p1.par, p1.ord, fun x j hj hL => ?_, p1.fo⟩
      · rcases f1 with f1 | f1
        · rw [f1, if_pos rfl]; omega
        · split <;> omega
      · by_cases h : j ≤ L
        · exact p1.full x j h hL
        · have e : j = L + 1 := by omega
          subst e
          obtain ⟨q, hq, hm2⟩ := hL.pred
          refine x1 q ?_ x hm2
          have := p.full q L (Nat.le_refl _) hq
          obtain ⟨e, he, rfl⟩ := List.mem_map.mp this
          exact (p.wv e.x).mpr ⟨e, he, rfl, ((p.lv e he).1.uniq hq)⟩
theorem parents_ok (n1 : n ≤ 100) (hl : mv.length ≤ 1000) (hm : ∀ p ∈ mv, 0 ≤ p.2 ∧ p.2 < n) (h0 : 0 ≤ s ∧ s < n) : ∃ K, m_parents_from (ev mv) (.int s) = .ok (.dct (dE K)) ∧ Tr mv s n K := by
  obtain ⟨K, d, e, t⟩ := bfs n1 hl hm h0 bigN 0 [⟨s, none, 0⟩] [s] (by rw [if_neg (by simp)]; unfold bigN; omega) ⟨by simp [keys], fun e he => by
    rw [List.mem_singleton.mp he]; exact ⟨lv0, Nat.le_refl _⟩, fun e he => by
    rw [List.mem_singleton.mp he]; exact .inl ⟨rfl, rfl⟩, by simp, fun x j hj hL => by
    have : j = 0 := by omega
    subst this
    rw [hL.zero]; simp [keys], fun x => by
    constructor
    · intro h; rw [List.mem_singleton.mp h]; exact ⟨_, List.mem_cons_self, rfl, rfl⟩
    · rintro ⟨e, he, q, _⟩; rw [List.mem_singleton.mp he] at q; rw [← q]; simp⟩
  have e : whileB bigN (.dct [(.int s, .non)], .lst [.int s]) m_parents_from_w1 (m_parents_from_b1 (ev mv)) = .ok (.next (.dct (dE K), d)) := e
  have d1 : dct1R (.int s) .non = .ok (.dct [(.int s, .non)]) := rfl
  refine ⟨K, ?_, t⟩
  simp only [m_parents_from, d1, Res.bind_ok, e, aftE_next, noexn_ok]
end
abbrev Inc (G : List Int) : Prop := G.Pairwise (· < ·)
def allRet (b : Bool) : Stp Unit D := if b = true then .next () else .ret (.bl false)
theorem forB_chk {α : Type} {l : List α} {g : α → D} {f : D → Unit → Res (Stp Unit D)} {c : α → Bool} (H : ∀ x ∈ l, f (g x) () = .ok (if (!c x) = true then .ret (.bl false) else .next ())) : forB (l.map g) () f = .ok (allRet (l.all c)) := by
  rw [forB_find (c := fun x => !c x) (v := fun _ => D.bl false) H]
  rcases find_all (l := l) (c := c) with ⟨x, h1, h2⟩ | ⟨h1, h2⟩
  · rw [h1, h2]; rfl
  · rw [h1, h2]; rfl
theorem aft_all {b : Bool} : (aftF (allRet b) fun _ => (.ok (.bl true) : Res D)) = .ok (.bl b) := by cases b <;> rfl
section
variable {mv : List Mv} {s n : Int} {K : List En} {G : List Int} {d : D}
theorem sort_inc {l : List Int} (h : l.Nodup) : Inc (sortI l) := by
  have p := sortI_perm l
  have nd : (sortI l).Nodup := p.nodup_iff.mpr h
  have s := sortI_sorted l
  rw [Inc]
  exact (s.and nd).imp fun {a b} q => by omega
structure Cs (mv : List Mv) (s n : Int) : Prop where
  n1 : n ≤ 20
  hl : mv.length ≤ 100
  hr : ∀ p ∈ mv, (0 ≤ p.1 ∧ p.1 < n) ∧ (0 ≤ p.2 ∧ p.2 < n)
  s0 : 0 ≤ s
  s1 : s < n
theorem lrun_ok {l : List Int} (h : l.length ≤ 1000) : m__law_is_run (ev mv) (.int s) (em l) = .ok (.bl (runB mv s l)) := by
  have ty : ∀ d ∈ l.map (emb : Int → D), tyB d = true := fun d hd => by obtain ⟨x, _, rfl⟩ := List.mem_map.mp hd; rfl
  have w := wholes_ok ty
  have w2 := lwholes_ok (l := l.map (emb : Int → D)) (by simpa using h) ty
  have e : m__law_are_wholes (em l) = m_are_wholes (em l) := by rw [w, w2]
  rw [all_int] at w
  rw [← run_wh (mv := mv) (s := s) h w]
  unfold m__law_is_run m_is_run
  rw [e]; rfl
theorem pure_mv (l : List Mv) : pure1 (ev l) = true := by
  show pureDs (l.map emb) = true
  induction l with
  | nil => rfl
  | cons x l ih => simp only [List.map_cons, pureDs, ih, Bool.and_true]; rfl
theorem run_get {mv : List Mv} {s : Int} {r : List Int} (h : runB mv s r = true) : r.getD 0 0 = s ∧ ∀ k : Nat, k + 1 < r.length → (r.getD k 0, r.getD (k + 1) 0) ∈ mv := by
  unfold runB at h
  simp only [Bool.and_eq_true, decide_eq_true_eq, List.all_eq_true, beq_iff_eq] at h
  refine ⟨h.1.2, fun k hk => ?_⟩
  have := h.2 ((k + 1 : Nat) : Int) (mem_ups.mpr (by omega))
  unfold stp inM at this
  rw [show (((k + 1 : Nat) : Int) - 1).toNat = k by omega, Int.toNat_natCast] at this
  exact of_decide_eq_true this
end
end G_k83

set_option Elab.async false
set_option linter.all false
set_option maxRecDepth 100000
set_option maxHeartbeats 2000000
namespace G_k83
open PySem PySem.Spec PyProof.Rows L2 VL VL.Emb
/-! walks of a length, ranks -/
def Wk (mv : List Mv) : Nat → Int → Prop
  | 0, _ => True
  | k + 1, x => ∃ y, (x, y) ∈ mv ∧ Wk mv k y
def Rk (mv : List Mv) (x : Int) (r : Nat) : Prop := Wk mv r x ∧ ¬ Wk mv (r + 1) x
section
variable {mv : List Mv} {s n : Int}
theorem Wk.down : ∀ {k : Nat} {x : Int}, Wk mv (k + 1) x → Wk mv k x
  | 0, _, _ => trivial
  | k + 1, x, ⟨y, h1, h2⟩ => ⟨y, h1, Wk.down h2⟩
theorem Wk.le {k : Nat} {x : Int} : ∀ {d : Nat}, Wk mv (k + d) x → Wk mv k x
  | 0, h => h
  | d + 1, h => Wk.le (d := d) (Wk.down h)
theorem Wk.mono {j k : Nat} {x : Int} (h : j ≤ k) (w : Wk mv k x) : Wk mv j x := by
  rw [show k = j + (k - j) by omega] at w; exact w.le
theorem Rk.le {x : Int} {r k : Nat} (h : Rk mv x r) (w : Wk mv k x) : k ≤ r := by
  rcases Nat.lt_or_ge r k with q | q
  · exact absurd (w.mono q) h.2
  · exact q
theorem Rk.uniq {x : Int} {r t : Nat} (a : Rk mv x r) (b : Rk mv x t) : r = t := Nat.le_antisymm (b.le a.1) (a.le b.1)
theorem rk_of {x : Int} : ∀ {k : Nat}, ¬ Wk mv k x → ∃ r < k, Rk mv x r
  | 0, h => absurd trivial h
  | k + 1, h => by
    by_cases w : Wk mv k x
    · exact ⟨k, by omega, w, h⟩
    · obtain ⟨r, a, b⟩ := rk_of w
      exact ⟨r, by omega, b⟩
theorem Rk.out {x y : Int} {r : Nat} (h : Rk mv x r) (e : (x, y) ∈ mv) : ∃ t < r, Rk mv y t := rk_of fun w => h.2 ⟨y, e, w⟩
theorem Rk.next {x : Int} {r : Nat} (h : Rk mv x (r + 1)) : ∃ y, (x, y) ∈ mv ∧ Rk mv y r := by
  obtain ⟨y, e, w⟩ := h.1
  exact ⟨y, e, w, fun w2 => h.2 ⟨y, e, w2⟩⟩
/-- the states of a closed set are more than a rank within it -/
theorem Rk.lt {R : List Int} (hR : ∀ x ∈ R, ∀ y, (x, y) ∈ mv → y ∈ R) : ∀ {r : Nat} {x : Int}, x ∈ R → Rk mv x r → r < R.length := by
  have key : ∀ (r : Nat) (x : Int), x ∈ R → Rk mv x r → ∃ l : List Int, l.length = r + 1 ∧ l.Nodup ∧ (∀ y ∈ l, y ∈ R) ∧ ∀ y ∈ l, ∃ i ≤ r, Rk mv y i := by
    intro r
    induction r with
    | zero => intro x hx h; exact ⟨[x], rfl, by simp, fun y hy => by rw [List.mem_singleton.mp hy]; exact hx, fun y hy => by rw [List.mem_singleton.mp hy]; exact ⟨0, by omega, h⟩⟩
    | succ r ih =>
      intro x hx h
      obtain ⟨y, e, hy⟩ := h.next
      obtain ⟨l, l1, l2, l3, l4⟩ := ih y (hR x hx y e) hy
      refine ⟨x :: l, by simp [l1], List.nodup_cons.mpr ⟨fun hm => ?_, l2⟩, fun z hz => ?_, fun z hz => ?_⟩
      · obtain ⟨i, i1, i2⟩ := l4 x hm
        have := h.uniq i2; omega
      · rcases List.mem_cons.mp hz with rfl | hz
        · exact hx
        · exact l3 z hz
      · rcases List.mem_cons.mp hz with rfl | hz
        · exact ⟨r + 1, by omega, h⟩
        · obtain ⟨i, i1, i2⟩ := l4 z hz; exact ⟨i, by omega, i2⟩
  intro r x hx h
  obtain ⟨l, l1, l2, l3, _⟩ := key r x hx h
  have := List.Nodup.length_le_of_subset l2 (l₂ := R) l3
  omega
end
/-! lists by states -/
def g0 (Q : List Int) (x : Int) : Int := Q.getD x.toNat 0
theorem ixQ {Q : List Int} {x : Int} (x0 : 0 ≤ x) (x1 : x < Q.length) : dIx (em Q) (.int x) = some (.int (g0 Q x)) := ixI x0 x1
theorem g0_set {Q : List Int} {x y z : Int} (x0 : 0 ≤ x) (x1 : x < Q.length) (y0 : 0 ≤ y) : g0 (Q.set x.toNat z) y = if y = x then z else g0 Q y := by
  unfold g0
  rw [List.getD_eq_getElem?_getD, List.getD_eq_getElem?_getD]
  by_cases h : y = x
  · subst h
    rw [if_pos rfl, List.getElem?_set_self (by omega)]; rfl
  · rw [if_neg h, List.getElem?_set_ne (by omega)]
theorem setQ {Q : List Int} {x z : Int} (x0 : 0 ≤ x) (x1 : x < Q.length) : setR (em Q) (.int x) (.int z) = .ok (em (Q.set x.toNat z)) := by
  rw [setR_ok, List.length_map, ixN_pos x0 x1, optS, Res.bind_ok, em, List.map_set]; rfl
theorem mulQ {n z : Int} (h0 : 0 ≤ n) (h : n ≤ 1000) : dMul (.lst [.int z]) (.int n) = some (em (List.replicate n.toNat z)) := by
  rw [dMul_rep (by omega) (by omega) (by simp; omega)]
  congr 2
  generalize n.toNat = m
  induction m with
  | zero => rfl
  | succ m ih => rw [List.replicate_succ, List.flatten_cons, ih, List.replicate_succ, List.map_cons]; rfl
theorem g0_rep {n z x : Int} (x0 : 0 ≤ x) (x1 : x < n) : g0 (List.replicate n.toNat z) x = z := by
  unfold g0; rw [List.getD_eq_getElem?_getD, List.getElem?_replicate, if_pos (by omega)]; rfl
theorem ext0 {n : Int} {P Q : List Int} (hp : P.length = n.toNat) (hq : Q.length = n.toNat) (h : ∀ x, 0 ≤ x → x < n → g0 P x = g0 Q x) : P = Q := by
  refine List.ext_getElem (by omega) fun i h1 h2 => ?_
  have := h (i : Nat) (by omega) (by omega)
  unfold g0 at this
  rw [Int.toNat_natCast, List.getD_eq_getElem?_getD, List.getElem?_eq_getElem h1, List.getD_eq_getElem?_getD, List.getElem?_eq_getElem h2] at this
  exact this
/-! the ranks that are found -/
structure RI (mv : List Mv) (n : Int) (R : List Int) (p : Nat) (done : List Int) (Q : List Int) : Prop where
  l : Q.length = n.toNat
  a : ∀ x, 0 ≤ x → x < n → g0 Q x = -1 ∨ (x ∈ R ∧ 0 ≤ g0 Q x ∧ Rk mv x (g0 Q x).toNat)
  b : ∀ x ∈ R, ∀ r, Rk mv x r → r < p → g0 Q x = r
  c : ∀ x ∈ done, 0 ≤ x → ∀ r, Rk mv x r → r ≤ p → g0 Q x = r
structure Cl (mv : List Mv) (n : Int) (R : List Int) : Prop where
  l : mv.length ≤ 100
  hr : ∀ p ∈ mv, (0 ≤ p.1 ∧ p.1 < n) ∧ (0 ≤ p.2 ∧ p.2 < n)
  rg : ∀ x ∈ R, 0 ≤ x ∧ x < n
  cl : ∀ x ∈ R, ∀ y, (x, y) ∈ mv → y ∈ R
section
variable {mv : List Mv} {n : Int} {R done Q : List Int} {p : Nat}
theorem rank_b2 (c : Cl mv n R) {x : Int} (hx : x ∈ R) (f : RI mv n R p done Q) : ∃ Q', m_find_ranks_b2 (ev mv) (.int x) (em Q) = .ok (em Q') ∧ RI mv n R p (done ++ [x]) Q' := by
  obtain ⟨x0, x1⟩ := c.rg x hx
  have ql := f.l
  have xl : x < Q.length := by omega
  have ml := c.l
  have ol := outs_len (mv := mv) (s := x)
  have lg : lenG ((outs mv x).map (emb : Int → D)) = .ok () := lenG_ok (by simp; omega)
  have og : ∀ y ∈ outs mv x, 0 ≤ y ∧ y < n := fun y hy => (c.hr _ (mem_outs.mp hy)).2
  have mm : mMap ((outs mv x).map emb) (m_find_ranks_c3 (em Q)) = .ok (((outs mv x).map (g0 Q)).map emb) := by
    rw [List.map_map]
    exact mMap_map fun y hy => by
      have := og y hy
      simp only [m_find_ranks_c3, emb_int, ixQ (Q := Q) (x := y) this.1 (by omega), optS, Res.bind_ok]; rfl
  have same : (∀ r, Rk mv x r → r ≤ p → g0 Q x = r) → RI mv n R p (done ++ [x]) Q := fun h => ⟨f.l, f.a, f.b, fun y hy y0 r hr hp => by
    rcases List.mem_append.mp hy with hy | hy
    · exact f.c y hy y0 r hr hp
    · rw [List.mem_singleton.mp hy] at hr ⊢; exact h r hr hp⟩
  simp only [m_find_ranks_b2, outs_ok (mv := mv) (s := x) (by omega), Res.bind_ok, itD_lst, optS, lg, mm, ixQ (Q := Q) (x := x) x0 (by omega), dEq_int, toB_bl]
  by_cases hq : g0 Q x = -1
  · rw [hq]
    simp only [beq_self_eq_true, if_true]
    have ni : dNotIn (.int (-1)) (.lst (((outs mv x).map (g0 Q)).map emb)) = some (.bl (!decide ((-1 : Int) ∈ (outs mv x).map (g0 Q)))) := dNotIn_int
    simp only [ni, optS, Res.bind_ok, toB_bl]
    by_cases hn : (-1 : Int) ∈ (outs mv x).map (g0 Q)
    · rw [if_neg (by simpa using hn)]
      refine ⟨Q, rfl, same fun r hr hp => ?_⟩
      exfalso
      obtain ⟨y, hy, e⟩ := List.mem_map.mp hn
      obtain ⟨t, ht, hk⟩ := hr.out (mem_outs.mp hy)
      have := f.b y (c.cl x hx y (mem_outs.mp hy)) t hk (by omega)
      omega
    · rw [if_pos (by simpa using hn)]
      have rk : ∀ y, (x, y) ∈ mv → 0 ≤ g0 Q y ∧ Rk mv y (g0 Q y).toNat := fun y hy => by
        have := og y (mem_outs.mpr hy)
        rcases f.a y this.1 this.2 with h | ⟨_, h⟩
        · exact absurd (List.mem_map.mpr ⟨y, mem_outs.mpr hy, h⟩) hn
        · exact h
      obtain ⟨M, eM, m1, m2⟩ : ∃ M : Int, fMaxLn1 [.lst (((outs mv x).map (g0 Q)).map emb)] = some (.int M) ∧ (M = -1 ∧ outs mv x = [] ∨ ∃ y ∈ outs mv x, M = g0 Q y) ∧ ∀ y ∈ outs mv x, g0 Q y ≤ M := by
        unfold fMaxLn1 fMaxLD
        dsimp only
        rw [embs_ints]
        cases ho : outs mv x with
        | nil => exact ⟨-1, rfl, .inl ⟨rfl, rfl⟩, by simp⟩
        | cons a t =>
          obtain ⟨h1, h2⟩ := VL.fold_max (t.map (g0 Q)) (g0 Q a)
          refine ⟨_, rfl, ?_, fun y hy => ?_⟩
          · rcases List.mem_cons.mp h1 with h | h
            · exact .inr ⟨a, List.mem_cons_self, h⟩
            · obtain ⟨y, hy, e⟩ := List.mem_map.mp h
              exact .inr ⟨y, List.mem_cons_of_mem _ hy, e.symm⟩
          · refine h2 _ ?_
            rcases List.mem_cons.mp hy with rfl | hy
            · exact List.mem_cons_self
            · exact List.mem_cons_of_mem _ (List.mem_map.mpr ⟨y, hy, rfl⟩)
      have mge : -1 ≤ M := by
        rcases m1 with ⟨h, _⟩ | ⟨y, hy, h⟩
        · omega
        · have := (rk y (mem_outs.mp hy)).1; omega
      have new : Rk mv x (M + 1).toNat := by
        refine ⟨?_, ?_⟩
        · rcases m1 with ⟨h, _⟩ | ⟨y, hy, h⟩
          · rw [h]; exact trivial
          · have := rk y (mem_outs.mp hy)
            rw [show (M + 1).toNat = (g0 Q y).toNat + 1 by omega]
            exact ⟨y, mem_outs.mp hy, this.2.1⟩
        · rintro ⟨y, hy, w⟩
          have a := rk y hy
          have b := m2 y (mem_outs.mpr hy)
          have := a.2.le w
          omega
      simp only [eM, optS, Res.bind_ok, dAdd_int, setQ (Q := Q) (x := x) (z := M + 1) x0 (by omega)]
      have old : ∀ r, Rk mv x r → M + 1 = r := fun r hr => by have := new.uniq hr; omega
      refine ⟨_, rfl, by simpa using ql, fun y y0 y1 => ?_, fun y hy r hr hp => ?_, fun y hy y0 r hr hp => ?_⟩
      · rw [g0_set x0 (by omega) y0]
        split
        · rename_i e; subst e
          exact .inr ⟨hx, by omega, new⟩
        · exact f.a y y0 y1
      · have := c.rg y hy
        rw [g0_set x0 (by omega) this.1]
        split
        · rename_i e; subst e; exact old r hr
        · exact f.b y hy r hr hp
      · by_cases e : y = x
        · rw [e] at hr ⊢
          rw [g0_set x0 xl x0, if_pos rfl]; exact old r hr
        · rcases List.mem_append.mp hy with hy | hy
          · rw [g0_set x0 xl y0, if_neg e]; exact f.c y hy y0 r hr hp
          · exact absurd (List.mem_singleton.mp hy) e
  · have bq : (g0 Q x == -1) = false := beq_eq_false_iff_ne.mpr hq
    rw [bq]
    simp only [Bool.false_eq_true, if_false, Res.bind_ok]
    refine ⟨Q, rfl, same fun r hr hp => ?_⟩
    rcases f.a x x0 x1 with h | ⟨_, h1, h2⟩
    · exact absurd h hq
    · have := h2.uniq hr; omega
theorem rank_b1 (c : Cl mv n R) : ∀ (rest done : List Int) (Q : List Int), R = done ++ rest → RI mv n R p done Q → ∃ Q', forN (rest.map emb) (em Q) (m_find_ranks_b2 (ev mv)) = .ok (em Q') ∧ RI mv n R p R Q'
  | [], done, Q, e, f => ⟨Q, rfl, by
    have e2 : done = R := by rw [e, List.append_nil]
    rw [← e2] at f ⊢
    rw [e2] at f ⊢; exact f⟩
  | x :: rest, done, Q, e, f => by
    obtain ⟨Q1, e1, f1⟩ := rank_b2 c (x := x) (by rw [e]; simp) f
    obtain ⟨Q2, e2, f2⟩ := rank_b1 c rest (done ++ [x]) Q1 (by rw [e]; simp) f1
    exact ⟨Q2, by rw [List.map_cons, forN_cons, emb_int, e1, Res.bind_ok, e2], f2⟩
theorem rank_loop (c : Cl mv n R) : ∀ (D1 : List Int) (p : Nat) (Q : List Int), RI mv n R p [] Q → ∃ Q', forN (D1.map emb) (em Q) (m_find_ranks_b1 (ev mv) (em R)) = .ok (em Q') ∧ RI mv n R (p + D1.length) [] Q'
  | [], p, Q, f => ⟨Q, rfl, f⟩
  | x :: D1, p, Q, f => by
    obtain ⟨Q1, e1, f1⟩ := rank_b1 c R [] Q rfl f
    obtain ⟨Q2, e2, f2⟩ := rank_loop c D1 (p + 1) Q1 ⟨f1.l, f1.a, fun y hy r hr hp => f1.c y hy (c.rg y hy).1 r hr (by omega), fun y hy => by cases hy⟩
    refine ⟨Q2, ?_, by rw [List.length_cons, show p + (D1.length + 1) = p + 1 + D1.length by omega]; exact f2⟩
    have e : m_find_ranks_b1 (ev mv) (em R) (.int x) (em Q) = .ok (em Q1) := by
      simp only [m_find_ranks_b1, itD_lst, optS, Res.bind_ok, e1]
    rw [List.map_cons, forN_cons, emb_int, e, Res.bind_ok, e2]
structure Ranks (mv : List Mv) (n : Int) (R Q : List Int) : Prop where
  l : Q.length = n.toNat
  a : ∀ x, 0 ≤ x → x < n → g0 Q x = -1 ∨ (x ∈ R ∧ 0 ≤ g0 Q x ∧ Rk mv x (g0 Q x).toNat)
  b : ∀ x ∈ R, ∀ r, Rk mv x r → g0 Q x = r
theorem ranks_ok (c : Cl mv n R) (n0 : 0 ≤ n) (n1 : n ≤ 100) : ∃ Q, m_find_ranks (.int n) (ev mv) (em R) = .ok (em Q) ∧ Ranks mv n R Q := by
  obtain ⟨Q, e, f⟩ := rank_loop c R 0 (List.replicate n.toNat (-1)) ⟨by simp, fun x x0 x1 => .inl (g0_rep x0 x1), fun x hx r hr hp => by omega, fun x hx => by cases hx⟩
  refine ⟨Q, ?_, f.l, f.a, fun x hx r hr => f.b x hx r hr (by have := hr.lt c.cl hx; omega)⟩
  simp only [m_find_ranks, mulQ (z := -1) n0 (show n ≤ 1000 by omega), optS, Res.bind_ok, itD_lst, e, noexn_ok]
end
/-! the longest walks, reckoned by the law -/
structure MI (mv : List Mv) (n : Int) (m : Nat) (done : List Int) (Q : List Int) : Prop where
  l : Q.length = n.toNat
  a : ∀ x, 0 ≤ x → x < n → 0 ≤ g0 Q x
  b : ∀ x, 0 ≤ x → x < n → x ∉ done → g0 Q x ≤ m ∧ ∀ k : Nat, k ≤ m → ((k : Int) ≤ g0 Q x ↔ Wk mv k x)
  c : ∀ x, 0 ≤ x → x < n → x ∈ done → g0 Q x ≤ (m : Int) + 1 ∧ ∀ k : Nat, k ≤ m + 1 → ((k : Int) ≤ g0 Q x ↔ Wk mv k x)
section
variable {mv : List Mv} {n : Int} {done Q : List Int} {m : Nat}
theorem long_b2 (hl : mv.length ≤ 100) (hr : ∀ p ∈ mv, (0 ≤ p.1 ∧ p.1 < n) ∧ (0 ≤ p.2 ∧ p.2 < n)) {x : Int} (x0 : 0 ≤ x) (x1 : x < n) (hx : x ∉ done) (f : MI mv n m done Q) : ∃ Q', m__law_longest_b2 (ev mv) (.int ((m : Int) + 1)) (.int x) (em Q) = .ok (em Q') ∧ MI mv n m (done ++ [x]) Q' := by
  have ql := f.l
  obtain ⟨b1, b2⟩ := f.b x x0 x1 hx
  have e1 : (m : Int) + 1 - 1 = m := by omega
  have same : (g0 Q x ≤ (m : Int) + 1 ∧ ∀ k : Nat, k ≤ m + 1 → ((k : Int) ≤ g0 Q x ↔ Wk mv k x)) → MI mv n m (done ++ [x]) Q := fun h => ⟨f.l, f.a, fun y y0 y1 hy => f.b y y0 y1 fun z => hy (List.mem_append.mpr (.inl z)), fun y y0 y1 hy => by
    rcases List.mem_append.mp hy with hy | hy
    · exact f.c y y0 y1 hy
    · rw [List.mem_singleton.mp hy]; exact h⟩
  simp only [m__law_longest_b2, ixQ (Q := Q) (x := x) x0 (by omega), optS, Res.bind_ok, dSub_int, e1, dEq_int, toB_bl]
  by_cases hq : g0 Q x = m
  · rw [hq]
    simp only [beq_self_eq_true, if_true, itD_lst, optS, Res.bind_ok, lenG_ok (show (mv.map (emb : Mv → D)).length ≤ 16777216 by simp; omega)]
    have fl := mFil_map (l := mv) (g := (emb : Mv → D)) (f := m__law_longest_c3 (em Q) (.int ((m : Int) + 1)) (.int x)) (h := fun _ => D.int 1) (c := fun p => decide (p.1 = x) && decide ((m : Int) ≤ g0 Q p.2)) fun p hp => by
      have u : un2 (emb p) = .ok (.int p.1, .int p.2) := rfl
      have := (hr p hp).2
      simp only [m__law_longest_c3, u, Res.bind_ok, dEq_int, optS, toB_bl]
      by_cases h : p.1 = x
      · rw [h]
        simp only [beq_self_eq_true, if_true, ixQ (Q := Q) (x := p.2) this.1 (by omega), optS, Res.bind_ok, dSub_int, e1, dGe_int, toB_bl, decide_true, Bool.true_and]
        split <;> rfl
      · have : (p.1 == x) = false := beq_eq_false_iff_ne.mpr h
        simp [this, h]
    have wk : (mv.any fun p => decide (p.1 = x) && decide ((m : Int) ≤ g0 Q p.2)) = true ↔ Wk mv (m + 1) x := by
      rw [List.any_eq_true]
      have iff : ∀ y, 0 ≤ y → y < n → ((m : Int) ≤ g0 Q y ↔ Wk mv m y) := fun y y0 y1 => by
        by_cases hy : y ∈ done
        · exact (f.c y y0 y1 hy).2 m (by omega)
        · exact (f.b y y0 y1 hy).2 m (by omega)
      constructor
      · rintro ⟨⟨i, j⟩, hp, h⟩
        simp only [Bool.and_eq_true, decide_eq_true_eq] at h
        have := (hr _ hp).2
        exact ⟨j, by rw [← h.1]; exact hp, (iff j this.1 this.2).mp h.2⟩
      · rintro ⟨j, hp, h⟩
        have := (hr _ hp).2
        exact ⟨(x, j), hp, by simp; exact (iff j this.1 this.2).mpr h⟩
    simp only [fl, Res.bind_ok, fLen_lst, List.length_map, optS, dGt_int, filtP, toB_bl]
    have wm : Wk mv m x := (b2 m (by omega)).mp (by omega)
    by_cases hw : Wk mv (m + 1) x
    · rw [if_pos (wk.mpr hw)]
      simp only [setQ (Q := Q) (x := x) (z := (m : Int) + 1) x0 (by omega), Res.bind_ok]
      refine ⟨_, rfl, by simpa using ql, fun y y0 y1 => ?_, fun y y0 y1 hy => ?_, fun y y0 y1 hy => ?_⟩
      · rw [g0_set x0 (by omega) y0]
        split
        · omega
        · exact f.a y y0 y1
      · have ne : y ≠ x := fun z => hy (by rw [z]; simp)
        rw [g0_set x0 (by omega) y0, if_neg ne]
        exact f.b y y0 y1 fun z => hy (List.mem_append.mpr (.inl z))
      · rw [g0_set x0 (by omega) y0]
        split
        · rename_i e; subst e
          exact ⟨Int.le_refl _, fun k hk => ⟨fun _ => hw.mono hk, fun _ => by omega⟩⟩
        · rename_i ne
          rcases List.mem_append.mp hy with hy | hy
          · exact f.c y y0 y1 hy
          · exact absurd (List.mem_singleton.mp hy) ne
    · rw [if_neg (fun z => hw (wk.mp z))]
      refine ⟨Q, rfl, same ⟨by omega, fun k hk => ?_⟩⟩
      by_cases h : k ≤ m
      · exact b2 k h
      · have : k = m + 1 := by omega
        subst this
        exact ⟨fun z => by omega, fun z => absurd z hw⟩
  · have bq : (g0 Q x == (m : Int)) = false := beq_eq_false_iff_ne.mpr hq
    rw [bq]
    simp only [Bool.false_eq_true, if_false]
    refine ⟨Q, rfl, same ⟨by omega, fun k hk => ?_⟩⟩
    by_cases h : k ≤ m
    · exact b2 k h
    · have : k = m + 1 := by omega
      subst this
      exact ⟨fun z => by omega, fun z => by
        have := (b2 m (by omega)).mpr z.down
        omega⟩
theorem long_b1 (hl : mv.length ≤ 100) (hr : ∀ p ∈ mv, (0 ≤ p.1 ∧ p.1 < n) ∧ (0 ≤ p.2 ∧ p.2 < n)) : ∀ (t i : Nat) (Q : List Int), i + t = n.toNat → MI mv n m (ups 0 i) Q → ∃ Q', forN ((ups (i : Nat) t).map emb) (em Q) (m__law_longest_b2 (ev mv) (.int ((m : Int) + 1))) = .ok (em Q') ∧ MI mv n m (ups 0 n.toNat) Q'
  | 0, i, Q, e, f => ⟨Q, rfl, by rw [show n.toNat = i by omega]; exact f⟩
  | t + 1, i, Q, e, f => by
    obtain ⟨Q1, e1, f1⟩ := long_b2 hl hr (x := (i : Int)) (by omega) (by omega) (fun z => by have := mem_ups.mp z; omega) f
    rw [show ups 0 i ++ [(i : Int)] = ups 0 (i + 1) by rw [ups_snoc, Int.zero_add]] at f1
    obtain ⟨Q2, e2, f2⟩ := long_b1 hl hr t (i + 1) Q1 (by omega) f1
    refine ⟨Q2, ?_, f2⟩
    rw [ups, List.map_cons, forN_cons, emb_int, e1, Res.bind_ok]
    exact e2
structure Lng (mv : List Mv) (n : Int) (Q : List Int) : Prop where
  l : Q.length = n.toNat
  a : ∀ x, 0 ≤ x → x < n → 0 ≤ g0 Q x ∧ g0 Q x ≤ n ∧ ∀ k : Nat, (k : Int) ≤ n → ((k : Int) ≤ g0 Q x ↔ Wk mv k x)
theorem long_loop (hl : mv.length ≤ 100) (n0 : 0 ≤ n) (n1 : n ≤ 100) (hr : ∀ p ∈ mv, (0 ≤ p.1 ∧ p.1 < n) ∧ (0 ≤ p.2 ∧ p.2 < n)) : ∀ (t m : Nat) (Q : List Int), m + t = n.toNat → MI mv n m [] Q → ∃ Q', (forB ((ups ((m : Int) + 1) t).map emb) (em Q) (m__law_longest_b1 (.int n) (ev mv)) = .ok (.next (em Q')) ∨ forB ((ups ((m : Int) + 1) t).map emb) (em Q) (m__law_longest_b1 (.int n) (ev mv)) = .ok (.ret (em Q'))) ∧ Lng mv n Q'
  | 0, m, Q, e, f => ⟨Q, .inl rfl, f.l, fun x x0 x1 => by
    obtain ⟨a, b⟩ := f.b x x0 x1 (by simp)
    exact ⟨f.a x x0 x1, by omega, fun k hk => b k (by omega)⟩⟩
  | t + 1, m, Q, e, f => by
    obtain ⟨Q1, e1, f1⟩ := long_b1 (m := m) hl hr n.toNat 0 Q (by omega) f
    have rg := rngI_1 (j := n) (by omega) (by omega)
    have e1 : forN ((ups 0 n.toNat).map emb) (em Q) (m__law_longest_b2 (ev mv) (.int ((m : Int) + 1))) = .ok (em Q1) := e1
    have ni : dNotIn (.int ((m : Int) + 1)) (em Q1) = some (.bl (!decide (((m : Int) + 1) ∈ Q1))) := dNotIn_int
    have inn : ∀ x, 0 ≤ x → x < n → x ∈ ups 0 n.toNat := fun x x0 x1 => mem_ups.mpr (by omega)
    have e2 : m__law_longest_b1 (.int n) (ev mv) (.int ((m : Int) + 1)) (em Q) = if ((m : Int) + 1) ∈ Q1 then .ok (.next (em Q1)) else .ok (.ret (em Q1)) := by
      simp only [m__law_longest_b1, rg, optS, Res.bind_ok, e1, ni, toB_bl]
      by_cases h : ((m : Int) + 1) ∈ Q1 <;> simp [h]
    rw [ups, List.map_cons, forB_cons, emb_int, e2]
    by_cases h : ((m : Int) + 1) ∈ Q1
    · rw [if_pos h]
      exact long_loop hl n0 n1 hr t (m + 1) Q1 (by omega) ⟨f1.l, f1.a, fun x x0 x1 _ => f1.c x x0 x1 (inn x x0 x1), fun x _ _ hx => by cases hx⟩
    · rw [if_neg h]
      refine ⟨Q1, .inr rfl, f1.l, fun x x0 x1 => ?_⟩
      obtain ⟨a, b⟩ := f1.c x x0 x1 (inn x x0 x1)
      have l1 := f1.l
      have ne : g0 Q1 x ≠ (m : Int) + 1 := fun z => h (by
        rw [← z]; unfold g0
        rw [List.getD_eq_getElem?_getD, List.getElem?_eq_getElem (by omega)]; exact List.getElem_mem _)
      have no : ¬ Wk mv (m + 1) x := fun w => by have := (b (m + 1) (by omega)).mpr w; omega
      refine ⟨f1.a x x0 x1, by omega, fun k hk => ?_⟩
      by_cases hk2 : k ≤ m + 1
      · exact b k hk2
      · exact ⟨fun z => by omega, fun w => absurd (w.mono (by omega)) no⟩
theorem longest_ok (hl : mv.length ≤ 100) (n0 : 0 ≤ n) (n1 : n ≤ 100) (hr : ∀ p ∈ mv, (0 ≤ p.1 ∧ p.1 < n) ∧ (0 ≤ p.2 ∧ p.2 < n)) : ∃ Q, m__law_longest (.int n) (ev mv) = .ok (em Q) ∧ Lng mv n Q := by
  obtain ⟨Q, e, f⟩ := long_loop hl n0 n1 hr n.toNat 0 (List.replicate n.toNat 0) (by omega) ⟨by simp, fun x x0 x1 => by rw [g0_rep x0 x1]; omega, fun x x0 x1 _ => by
    rw [g0_rep x0 x1]
    refine ⟨by omega, fun k hk => ?_⟩
    have : k = 0 := by omega
    subst this
    exact ⟨fun _ => trivial, fun _ => Int.le_refl _⟩, fun x _ _ hx => by cases hx⟩
  have rg := rngI_2 (i := 1) (j := n + 1) (by omega) (by omega) (by omega) (by omega)
  rw [show (n + 1 - 1).toNat = n.toNat by omega] at rg
  refine ⟨Q, ?_, f⟩
  rcases e with e | e
  · have e : forB ((ups 1 n.toNat).map emb) (em (List.replicate n.toNat 0)) (m__law_longest_b1 (.int n) (ev mv)) = .ok (.next (em Q)) := e
    simp only [m__law_longest, mulQ (z := 0) n0 (show n ≤ 1000 by omega), optS, Res.bind_ok, dAdd_int, rg, e, aftF_next, noexn_ok]
  · have e : forB ((ups 1 n.toNat).map emb) (em (List.replicate n.toNat 0)) (m__law_longest_b1 (.int n) (ev mv)) = .ok (.ret (em Q)) := e
    simp only [m__law_longest, mulQ (z := 0) n0 (show n ≤ 1000 by omega), optS, Res.bind_ok, dAdd_int, rg, e, aftF_ret, noexn_ok]
end
end G_k83

set_option Elab.async false
set_option linter.all false
set_option maxRecDepth 100000
set_option maxHeartbeats 2000000
namespace G_k83
open PySem PySem.Spec PyProof.Rows L2 VL VL.Emb
/-! what the law reaches -/
structure FR (mv : List Mv) (s : Int) (n : Int) (k : Nat) (done : List Mv) (F : List Int) : Prop where
  nd : F.Nodup
  a : ∀ x ∈ F, ∃ j, Wn mv s j x
  b : ∀ x j, j ≤ k → Lv mv s j x → x ∈ F
  c : ∀ p ∈ done, p.1 ∈ F → p.2 ∈ F
section
variable {mv done : List Mv} {s n : Int} {k : Nat} {F : List Int}
theorem FR.len (hm : ∀ p ∈ mv, 0 ≤ p.2 ∧ p.2 < n) (h0 : 0 ≤ s ∧ s < n) (f : FR mv s n k done F) : F.length ≤ n.toNat := nd_len f.nd fun x hx => by
  obtain ⟨j, hj⟩ := f.a x hx
  obtain ⟨i, _, hi⟩ := hj.lv
  exact hi.rg hm h0
/-- within a round: what led on at the round's beginning leads on -/
theorem reach_b1 (n1 : n ≤ 100) (hm : ∀ p ∈ mv, 0 ≤ p.2 ∧ p.2 < n) (h0 : 0 ≤ s ∧ s < n) : ∀ (rest done : List Mv) (F : List Int) (B : Int → Prop), mv = done ++ rest → F.Nodup → (∀ x ∈ F, ∃ j, Wn mv s j x) → (∀ x, B x → x ∈ F) → (∀ p ∈ done, B p.1 → p.2 ∈ F) → ∃ F', forN (rest.map emb) (em F) m__law_reached_b2 = .ok (em F') ∧ F'.Nodup ∧ (∀ x ∈ F', ∃ j, Wn mv s j x) ∧ (∀ x, B x → x ∈ F') ∧ (∀ x ∈ F, x ∈ F') ∧ ∀ p ∈ mv, B p.1 → p.2 ∈ F'
  | [], done, F, B, e, nd, a, b, c => ⟨F, rfl, nd, a, b, fun x h => h, fun p hp => c p (by rw [e, List.append_nil] at hp; exact hp)⟩
  | p :: rest, done, F, B, e, nd, a, b, c => by
    have u : un2 (emb p) = .ok (.int p.1, .int p.2) := rfl
    have fl : F.length ≤ n.toNat := nd_len nd fun x hx => by
      obtain ⟨j, hj⟩ := a x hx
      obtain ⟨i, _, hi⟩ := hj.lv
      exact hi.rg hm h0
    have hp : p ∈ mv := by rw [e]; simp
    obtain ⟨F1, e1, nd1, a1, s1, c1⟩ : ∃ F1, m__law_reached_b2 (emb p) (em F) = .ok (em F1) ∧ F1.Nodup ∧ (∀ x ∈ F1, ∃ j, Wn mv s j x) ∧ (∀ x ∈ F, x ∈ F1) ∧ (p.1 ∈ F → p.2 ∈ F1) := by
      simp only [m__law_reached_b2, u, Res.bind_ok, dIn_int, optS, toB_bl]
      by_cases h : p.1 ∈ F
      · simp only [h, decide_true, if_true, dNotIn_int, optS, Res.bind_ok, toB_bl]
        by_cases h2 : p.2 ∈ F
        · exact ⟨F, by simp [h2], nd, a, fun x hx => hx, fun _ => h2⟩
        · have ma := mAppend_emb (a := F) (x := p.2) (d := .int p.2) rfl (by omega)
          refine ⟨F ++ [p.2], by simp only [h2, decide_false, Bool.not_false, if_true, toL_lst, Res.bind_ok, ma, optS], ?_, fun x hx => ?_, fun x hx => List.mem_append.mpr (.inl hx), fun _ => by simp⟩
          · rw [List.nodup_append]
            refine ⟨nd, by simp, fun y hy z hz => ?_⟩
            rw [List.mem_singleton.mp hz]; intro q; rw [q] at hy; exact h2 hy
          · rcases List.mem_append.mp hx with hx | hx
            · exact a x hx
            · rw [List.mem_singleton.mp hx]
              obtain ⟨j, hj⟩ := a p.1 h
              exact ⟨j + 1, .s hj hp⟩
      · exact ⟨F, by simp [h], nd, a, fun x hx => hx, fun z => absurd z h⟩
    obtain ⟨F2, e2, nd2, a2, b2, s2, c2⟩ := reach_b1 n1 hm h0 rest (done ++ [p]) F1 B (by rw [e]; simp) nd1 a1 (fun x hx => s1 x (b x hx)) (fun q hq hB => by
      rcases List.mem_append.mp hq with hq | hq
      · exact s1 _ (c q hq hB)
      · rw [List.mem_singleton.mp hq] at hB ⊢; exact c1 (b _ hB))
    exact ⟨F2, by rw [List.map_cons, forN_cons, e1, Res.bind_ok, e2], nd2, a2, b2, fun x hx => s2 x (s1 x hx), c2⟩
theorem reach_loop (n1 : n ≤ 100) (hm : ∀ p ∈ mv, 0 ≤ p.2 ∧ p.2 < n) (h0 : 0 ≤ s ∧ s < n) : ∀ (t k : Nat) (F : List Int) (i : Int), F.Nodup → (∀ x ∈ F, ∃ j, Wn mv s j x) → (∀ x j, j ≤ k → Lv mv s j x → x ∈ F) → ∃ F', forN ((ups i t).map emb) (em F) (m__law_reached_b1 (ev mv)) = .ok (em F') ∧ F'.Nodup ∧ (∀ x ∈ F', ∃ j, Wn mv s j x) ∧ ∀ x j, j ≤ k + t → Lv mv s j x → x ∈ F'
  | 0, k, F, i, nd, a, b => ⟨F, rfl, nd, a, b⟩
  | t + 1, k, F, i, nd, a, b => by
    obtain ⟨F1, e1, nd1, a1, b1, s1, c1⟩ := reach_b1 n1 hm h0 mv [] F (fun x => ∃ j ≤ k, Lv mv s j x) rfl nd a (fun x ⟨j, hj, hL⟩ => b x j hj hL) (fun p hp => by cases hp)
    obtain ⟨F2, e2, nd2, a2, b2⟩ := reach_loop n1 hm h0 t (k + 1) F1 (i + 1) nd1 a1 (fun x j hj hL => by
      by_cases h : j ≤ k
      · exact s1 x (b x j h hL)
      · have q : j = k + 1 := by omega
        subst q
        obtain ⟨p, hp, hm2⟩ := hL.pred
        exact c1 (p, x) hm2 ⟨k, Nat.le_refl _, hp⟩)
    refine ⟨F2, ?_, nd2, a2, fun x j hj hL => b2 x j (by omega) hL⟩
    have e : m__law_reached_b1 (ev mv) (.int i) (em F) = .ok (em F1) := by
      simp only [m__law_reached_b1, itD_lst, optS, Res.bind_ok, e1]
    rw [ups, List.map_cons, forN_cons, emb_int, e, Res.bind_ok, e2]
theorem lreached_ok (n1 : n ≤ 100) (hm : ∀ p ∈ mv, 0 ≤ p.2 ∧ p.2 < n) (h0 : 0 ≤ s ∧ s < n) : ∃ F, m__law_reached (.int n) (ev mv) (.int s) = .ok (em F) ∧ F.Nodup ∧ ∀ x, x ∈ F ↔ ∃ j, Lv mv s j x := by
  obtain ⟨F, e, nd, a, b⟩ := reach_loop n1 hm h0 n.toNat 0 [s] 0 (by simp) (fun x hx => ⟨0, by rw [List.mem_singleton.mp hx]; exact .z⟩) (fun x j hj hL => by
    have : j = 0 := by omega
    subst this
    rw [hL.zero]; simp)
  have rg := rngI_1 (j := n) (by omega) (by omega)
  have e : forN ((ups 0 n.toNat).map emb) (.lst [.int s]) (m__law_reached_b1 (ev mv)) = .ok (em F) := e
  refine ⟨F, by simp only [m__law_reached, rg, optS, Res.bind_ok, e, noexn_ok], nd, fun x => ⟨fun hx => ?_, fun ⟨j, hj⟩ => b x j (by have := hj.lt hm h0; omega) hj⟩⟩
  obtain ⟨j, hj⟩ := a x hx
  obtain ⟨i, _, hi⟩ := hj.lv
  exact ⟨i, hi⟩
end
/-- ranks of the states that are reached -/
theorem fill_ok {n : Int} {M : List Int} (ml : M.length = n.toNat) : ∀ (F Q : List Int), (∀ x ∈ F, 0 ≤ x ∧ x < n) → Q.length = n.toNat → ∃ Q', forN (F.map emb) (em Q) (m__law_is_right_b1 (em M)) = .ok (em Q') ∧ Q'.length = n.toNat ∧ ∀ x, 0 ≤ x → x < n → g0 Q' x = if x ∈ F then g0 M x else g0 Q x
  | [], Q, _, ql => ⟨Q, rfl, ql, fun x _ _ => by simp⟩
  | y :: F, Q, hF, ql => by
    obtain ⟨y0, y1⟩ := hF y List.mem_cons_self
    obtain ⟨Q1, e1, l1, g1⟩ := fill_ok ml F (Q.set y.toNat (g0 M y)) (fun x hx => hF x (List.mem_cons_of_mem _ hx)) (by simpa using ql)
    refine ⟨Q1, ?_, l1, fun x x0 x1 => ?_⟩
    · have e : m__law_is_right_b1 (em M) (.int y) (em Q) = .ok (em (Q.set y.toNat (g0 M y))) := by
        simp only [m__law_is_right_b1, ixQ (Q := M) (x := y) y0 (by omega), optS, Res.bind_ok, setQ (Q := Q) (x := y) (z := g0 M y) y0 (by omega)]
      rw [List.map_cons, forN_cons, emb_int, e, Res.bind_ok, e1]
    · rw [g1 x x0 x1, g0_set y0 (by omega) x0]
      by_cases h : x ∈ F
      · simp [h]
      · by_cases h2 : x = y
        · simp [h2]
        · simp [h, h2]
/-! papers of ranks -/
def enB (mv : List Mv) (s : Int) (P : List Int) : Bool := (P.all fun x => decide (-1 ≤ x)) && (decide (0 ≤ g0 P s) && mv.all fun p => !decide (0 ≤ g0 P p.1) || (decide (0 ≤ g0 P p.2) && decide (g0 P p.2 < g0 P p.1)))
section
variable {mv : List Mv} {s n : Int} {P : List Int}
theorem min_ok {l : List Int} (h : l ≠ []) : ∃ m, fMinL [em l] = some (.int m) ∧ m ∈ l ∧ ∀ y ∈ l, m ≤ y := by
  cases l with
  | nil => exact absurd rfl h
  | cons x r =>
    obtain ⟨a, b, c⟩ := minL_spec r x
    refine ⟨minL x r, ?_, ?_, ?_⟩
    · unfold fMinL; dsimp only; rw [embs_ints]
    · rcases a with h | h <;> simp [h]
    · intro y hy
      rcases List.mem_cons.mp hy with rfl | hy
      · exact b
      · exact c y hy
theorem ends_ok (c : Cs mv s n) (pl : P.length = n.toNat) : m_shows_ends (.int n) (ev mv) (.int s) (em P) = .ok (.bl (enB mv s P)) := by
  have s0 := c.s0
  have s1 := c.s1
  have w := wholes_ok (l := P.map emb) fun d hd => by obtain ⟨x, _, rfl⟩ := List.mem_map.mp hd; rfl
  rw [all_int] at w
  have w : m_are_wholes (em P) = .ok (.bl true) := w
  have ln : fLen [em P] = some (.int n) := by rw [fLen_lst, List.length_map, pl]; congr 2; omega
  have nn : dNe (.int n) (.int n) = some (.bl false) := by rw [dNe_int]; simp
  obtain ⟨m, e1, e2, e3⟩ := min_ok (l := P) (fun z => by rw [z] at pl; simp at pl; omega)
  have mg : decide (-1 ≤ m) = P.all fun x => decide (-1 ≤ x) := by
    rw [Bool.eq_iff_iff, decide_eq_true_iff, List.all_eq_true]
    exact ⟨fun h x hx => decide_eq_true (by have := e3 x hx; omega), fun h => of_decide_eq_true (h m e2)⟩
  have ar : m_are_ranks (.int n) (em P) = .ok (.bl (P.all fun x => decide (-1 ≤ x))) := by
    simp only [m_are_ranks, w, Res.bind_ok, truD_bl, optS, Bool.not_true, Bool.false_eq_true, if_false, ln, nn, toB_bl, e1, dGe_int, mg, nc_bl, noexn_ok]
  have w2 := forB_chk (l := mv) (g := (emb : Mv → D)) (f := m_shows_ends_b1 (em P)) (c := fun p => !decide (0 ≤ g0 P p.1) || (decide (0 ≤ g0 P p.2) && decide (g0 P p.2 < g0 P p.1))) fun p hp => by
    have u : un2 (emb p) = .ok (.int p.1, .int p.2) := rfl
    obtain ⟨⟨i0, i1⟩, j0, j1⟩ := c.hr p hp
    simp only [m_shows_ends_b1, u, Res.bind_ok, ixQ (Q := P) (x := p.1) i0 (by omega), optS, dGe_int, toB_bl]
    by_cases h : 0 ≤ g0 P p.1
    · simp only [h, decide_true, if_true, ixQ (Q := P) (x := p.2) j0 (by omega), optS, Res.bind_ok, dLe_int, toB_bl, dLt_int, ite_Df, Bool.decide_eq_true, Bool.not_true, Bool.false_or]
      rw [ite_ok]
    · simp [h]
  simp only [m_shows_ends, ar, Res.bind_ok, truD_bl, optS, enB]
  cases (P.all fun x => decide (-1 ≤ x)) with
  | false => rfl
  | true =>
    simp only [Bool.not_true, Bool.false_eq_true, if_false, ixQ (Q := P) (x := s) s0 (by omega), optS, Res.bind_ok, dLt_int, toB_bl, Bool.true_and]
    by_cases h : 0 ≤ g0 P s
    · rw [decide_eq_false (show ¬ g0 P s < 0 by omega), decide_eq_true h]
      simp only [Bool.false_eq_true, if_false, itD_lst, optS, Res.bind_ok, w2, aft_all, noexn_ok, Bool.true_and]
    · rw [decide_eq_true (show g0 P s < 0 by omega), decide_eq_false h]; rfl
theorem ends_no (h : ∀ k, Wk mv k s) : enB mv s P = false := by
  rw [Bool.eq_false_iff]
  intro q
  unfold enB at q
  simp only [Bool.and_eq_true, decide_eq_true_eq, List.all_eq_true, Bool.or_eq_true, Bool.not_eq_true', decide_eq_false_iff_not] at q
  have key : ∀ (k : Nat) (x : Int), 0 ≤ g0 P x → Wk mv k x → (k : Int) ≤ g0 P x := by
    intro k
    induction k with
    | zero => intro x hx _; exact hx
    | succ k ih =>
      rintro x hx ⟨y, hy, w⟩
      rcases q.2.2 _ hy with z | z
      · exact absurd hx z
      · have z : 0 ≤ g0 P y ∧ g0 P y < g0 P x := z
        have := ih y z.1 w; omega
  have := key ((g0 P s).toNat + 1) s q.2.1 (h _)
  omega
theorem ends_yes {R Q : List Int} (cl : Cl mv n R) (f : Ranks mv n R Q) (hs : 0 ≤ s ∧ s < n) (h : 0 ≤ g0 Q s) (qb : ∀ x ∈ Q, -1 ≤ x) : enB mv s Q = true := by
  unfold enB
  rw [Bool.and_eq_true, Bool.and_eq_true, List.all_eq_true, List.all_eq_true]
  refine ⟨fun x hx => decide_eq_true (qb x hx), decide_eq_true h, fun p hp => ?_⟩
  obtain ⟨⟨i0, i1⟩, j0, j1⟩ := cl.hr p hp
  rcases f.a p.1 i0 i1 with e | ⟨e1, e2, e3⟩
  · rw [e]; rfl
  · obtain ⟨t, ht, hk⟩ := e3.out (y := p.2) hp
    have := f.b p.2 (cl.cl p.1 e1 p.2 hp) t hk
    rw [this]
    simp; omega
end
end G_k83

set_option Elab.async false
set_option linter.all false
set_option maxRecDepth 100000
set_option maxHeartbeats 2000000
namespace G_k83
open PySem PySem.Spec PyProof.Rows L2 VL VL.Emb
theorem cut_init {α : Type} {l : List α} : cutA l none (some (-1)) = l.dropLast := by
  unfold cutA HT.sIx
  rw [List.dropLast_eq_take]
  by_cases h : l.length = 0
  · have : l = [] := List.length_eq_zero_iff.mp h
    subst this; rfl
  · simp only [List.drop_zero]
    congr 1
    simp
    omega
section
variable {mv : List Mv} {s n : Int} {R Q : List Int}
theorem run_of {r : List Int} (h0 : r.length ≠ 0) (h1 : r.getD 0 0 = s) (h2 : ∀ k : Nat, k + 1 < r.length → (r.getD k 0, r.getD (k + 1) 0) ∈ mv) : runB mv s r = true := by
  unfold runB
  simp only [Bool.and_eq_true, decide_eq_true_eq, List.all_eq_true, beq_iff_eq]
  refine ⟨⟨h0, h1⟩, fun k hk => ?_⟩
  have hk := mem_ups.mp hk
  obtain ⟨m, rfl⟩ : ∃ m : Nat, k = ((m + 1 : Nat) : Int) := ⟨k.toNat - 1, by omega⟩
  unfold stp inM
  rw [show (((m + 1 : Nat) : Int) - 1).toNat = m by omega, Int.toNat_natCast]
  exact decide_eq_true (h2 m (by omega))
/-- a run that goes on for ever -/
def Inf (mv : List Mv) (x : Int) : Prop := ∀ k, Wk mv k x
theorem inf_of {x : Int} (h : ¬ ∃ r, Rk mv x r) : Inf mv x := fun k => by
  by_cases w : Wk mv k x
  · exact w
  · obtain ⟨r, _, hr⟩ := rk_of w
    exact absurd ⟨r, hr⟩ h
theorem inf_no {x : Int} (h : Inf mv x) : ¬ ∃ r, Rk mv x r := fun ⟨r, hr⟩ => hr.2 (h _)
theorem inf_iff (cl : Cl mv n R) (f : Ranks mv n R Q) {x : Int} (hx : x ∈ R) : g0 Q x = -1 ↔ Inf mv x := by
  obtain ⟨x0, x1⟩ := cl.rg x hx
  constructor
  · intro h
    refine inf_of fun ⟨r, hr⟩ => ?_
    have := f.b x hx r hr
    omega
  · intro h
    rcases f.a x x0 x1 with q | ⟨_, _, q⟩
    · exact q
    · exact absurd ⟨_, q⟩ (inf_no h)
theorem inf_out (cl : Cl mv n R) {x : Int} (hx : x ∈ R) (h : Inf mv x) : ∃ y, (x, y) ∈ mv ∧ Inf mv y := by
  refine Classical.byContradiction fun hn => ?_
  have rk : ∀ y, (x, y) ∈ mv → ∃ r, Rk mv y r := fun y hy => Classical.byContradiction fun z => hn ⟨y, hy, inf_of z⟩
  obtain ⟨y, hy, w⟩ := h (R.length + 1)
  obtain ⟨r, hr⟩ := rk y hy
  have := hr.le w
  have := hr.lt cl.cl (cl.cl x hx y hy)
  omega
structure Er (mv : List Mv) (s : Int) (R r : List Int) : Prop where
  run : runB mv s r = true
  inn : ∀ x ∈ r, x ∈ R
  inf : ∀ x ∈ r, Inf mv x
  nd : r.dropLast.Nodup
theorem lst_last {r : List Int} (h : r ≠ []) : r = r.dropLast ++ [lst0 r] := by
  conv => lhs; rw [← List.dropLast_concat_getLast h]
  congr 1
  unfold lst0
  rw [List.getD_eq_getElem?_getD, List.getElem?_eq_getElem (by have := List.length_pos_iff.mpr h; omega), List.getLast_eq_getElem]; rfl
theorem endless (cl : Cl mv n R) (f : Ranks mv n R Q) (n0 : 0 ≤ n) (n1 : n ≤ 100) : ∀ (N : Nat) (r : List Int), n.toNat + 3 - r.length ≤ N → 0 < N → r.length ≤ n.toNat + 1 → Er mv s R r → ∃ r', whileB N (em r) m_endless_run_w1 (m_endless_run_b1 (ev mv) (em Q)) = .ok (.next (em r')) ∧ Er mv s R r' ∧ lst0 r' ∈ r'.dropLast ∧ r'.length ≤ n.toNat + 1
  | 0, r, _, h, _, _ => by omega
  | N + 1, r, hN, _, hr, e => by
    have ml := cl.l
    have ql := f.l
    have rn := run_ne e.run
    have ne : r ≠ [] := fun z => rn (by rw [z]; rfl)
    have il : dIx (em r) (.int (-1)) = some (.int (lst0 r)) := ixL rn
    have sl : dSlice (em r) none (some (-1)) = some (em r.dropLast) := by rw [dSlice_emb, cut_init]
    have w : m_endless_run_w1 (em r) = .ok (!decide (lst0 r ∈ r.dropLast)) := by
      simp only [m_endless_run_w1, il, optS, Res.bind_ok, sl, dNotIn_int, toB_bl]
    unfold whileB
    rw [w, Res.bind_ok]
    by_cases h : lst0 r ∈ r.dropLast
    · rw [if_neg (by simpa using h)]
      exact ⟨r, rfl, e, h, hr⟩
    · rw [if_pos (by simpa using h)]
      have lm : lst0 r ∈ r := lst0_mem rn
      have lR := e.inn _ lm
      obtain ⟨l0, l1⟩ := cl.rg _ lR
      have ol := outs_len (mv := mv) (s := lst0 r)
      have lg : lenG ((outs mv (lst0 r)).map (emb : Int → D)) = .ok () := lenG_ok (by simp; omega)
      have fl := mFil_map (l := outs mv (lst0 r)) (g := (emb : Int → D)) (f := m_endless_run_c2 (em Q)) (h := (emb : Int → D)) (c := fun y => g0 Q y == -1) fun y hy => by
        have := (cl.hr _ (mem_outs.mp hy)).2
        simp only [m_endless_run_c2, emb_int, ixQ (Q := Q) (x := y) this.1 (by omega), optS, Res.bind_ok, dEq_int, toB_bl]
        split <;> rfl
      obtain ⟨y, hy, iy⟩ := inf_out cl lR (e.inf _ lm)
      have yf : y ∈ (outs mv (lst0 r)).filter fun y => g0 Q y == -1 := List.mem_filter.mpr ⟨mem_outs.mpr hy, beq_iff_eq.mpr ((inf_iff cl f (cl.cl _ lR y hy)).mpr iy)⟩
      obtain ⟨z, t, ez⟩ : ∃ z t, (outs mv (lst0 r)).filter (fun y => g0 Q y == -1) = z :: t := by
        cases hh : (outs mv (lst0 r)).filter fun y => g0 Q y == -1 with
        | nil => rw [hh] at yf; cases yf
        | cons z t => exact ⟨z, t, rfl⟩
      have zm : z ∈ (outs mv (lst0 r)).filter fun y => g0 Q y == -1 := by rw [ez]; exact List.mem_cons_self
      rw [List.mem_filter] at zm
      have ze := mem_outs.mp zm.1
      have zR := cl.cl _ lR z ze
      have zi := (inf_iff cl f zR).mp (beq_iff_eq.mp zm.2)
      rw [ez] at fl
      have ma := mAppend_emb (a := r) (x := z) (d := .int z) rfl (by omega)
      have i0 : dIx (.lst ((z :: t).map emb)) (.int 0) = some (.int z) := by rw [dIx_lst]; exact atI_0
      have b : m_endless_run_b1 (ev mv) (em Q) (em r) = .ok (.next (em (r ++ [z]))) := by
        simp only [m_endless_run_b1, il, optS, Res.bind_ok, outs_ok (mv := mv) (s := lst0 r) (by omega), itD_lst, lg, fl, toL_lst, i0, ma]
      have nd : r.Nodup := by
        rw [lst_last ne, List.nodup_append]
        refine ⟨e.nd, by simp, fun a ha b hb => ?_⟩
        rw [List.mem_singleton.mp hb]; intro q; rw [q] at ha; exact h ha
      have rl := nd_len (n := n) nd fun x hx => cl.rg x (e.inn x hx)
      rw [b, Res.bind_ok]
      refine endless cl f n0 n1 N (r ++ [z]) (by simp; omega) (by omega) (by simp; omega) ⟨run_snoc e.run ze, fun x hx => ?_, fun x hx => ?_, by rw [List.dropLast_concat]; exact nd⟩
      · rcases List.mem_append.mp hx with hx | hx
        · exact e.inn x hx
        · rw [List.mem_singleton.mp hx]; exact zR
      · rcases List.mem_append.mp hx with hx | hx
        · exact e.inf x hx
        · rw [List.mem_singleton.mp hx]; exact zi
end
theorem idx_some {x : Int} : ∀ {l : List Int} {k : Nat}, x ∈ l → ∃ j : Nat, idxD (.int x) (l.map emb) k = some j
  | [], _, h => by cases h
  | y :: l, k, h => by
    show ∃ j, (if eqD (emb y) (.int x) = true then some k else idxD (.int x) (l.map emb) (k + 1)) = some j
    by_cases e : eqD (emb y) (.int x) = true
    · rw [if_pos e]; exact ⟨k, rfl⟩
    · rw [if_neg e]
      rcases List.mem_cons.mp h with rfl | h
      · exact absurd (by simp [eqD]) e
      · exact idx_some h
theorem idx_first {x : Int} : ∀ {l : List Int} {k j : Nat}, idxD (.int x) (l.map emb) k = some j → ∃ i, j = k + i ∧ i < l.length ∧ l.getD i 0 = x ∧ ∀ i' < i, l.getD i' 0 ≠ x
  | [], k, j, h => by cases h
  | y :: l, k, j, h => by
    have h : (if eqD (emb y) (.int x) = true then some k else idxD (.int x) (l.map emb) (k + 1)) = some j := h
    have q : eqD (emb y) (.int x) = true ↔ y = x := by simp [eqD]
    by_cases e : y = x
    · rw [if_pos (q.mpr e)] at h
      cases h
      exact ⟨0, rfl, by simp, by simpa using e, fun i' hi' => by omega⟩
    · rw [if_neg (fun z => e (q.mp z))] at h
      obtain ⟨i, e1, e2, e3, e4⟩ := idx_first h
      refine ⟨i + 1, by omega, by simp; omega, by simpa using e3, fun i' hi' => ?_⟩
      cases i' with
      | zero => simpa using e
      | succ i' => have := e4 i' (by omega); simpa using this
theorem mIndex_ok {l : List Int} {x : Int} (h : x ∈ l) : ∃ i : Nat, mIndex (l.map emb) [.int x] = some (.int (i : Nat)) ∧ i < l.length ∧ l.getD i 0 = x ∧ ∀ i' < i, l.getD i' 0 ≠ x := by
  obtain ⟨j, hj⟩ := idx_some (k := 0) h
  obtain ⟨i, e, h1, h2, h3⟩ := idx_first hj
  have e : j = i := by omega
  subst e
  refine ⟨j, ?_, h1, h2, h3⟩
  unfold mIndex
  dsimp only
  rw [if_pos ⟨rfl, by rw [List.all_map, List.all_eq_true]; intro z _; rfl⟩, hj]; rfl
inductive EO (mv : List Mv) (s n : Int) (R : List Int) : D → Prop where
  | ends {Q : List Int} : Ranks mv n R Q → 0 ≤ g0 Q s → EO mv s n R (.tup [.str [101, 110, 100, 115], em Q])
  | rnd {A B : List Int} : Inf mv s → runB mv s A = true → runB mv (lst0 A) B = true → 2 ≤ B.length → lst0 B = lst0 A → A.length ≤ 200 → B.length ≤ 200 → EO mv s n R (.tup [.str [114, 111, 117, 110, 100], em A, em B])
section
variable {mv : List Mv} {s n : Int}
theorem ending_ok (c : Cs mv s n) : ∃ d R, m_ending (.int n) (ev mv) (.int s) = .ok d ∧ Cl mv n R ∧ (∀ x, x ∈ R ↔ ∃ j, Lv mv s j x) ∧ EO mv s n R d := by
  have n1 := c.n1
  have hl := c.hl
  have s0 := c.s0
  have s1 := c.s1
  have hm : ∀ p ∈ mv, 0 ≤ p.2 ∧ p.2 < n := fun p hp => (c.hr p hp).2
  obtain ⟨K, e, t⟩ := parents_ok (mv := mv) (s := s) (n := n) (by omega) (by omega) hm ⟨s0, s1⟩
  have kl := klen hm ⟨s0, s1⟩ t.nd t.lv
  have st : fSortedK [.dct (dE K)] = some (em (sortI (keys K))) := by
    show ((intsOf ((dE K).map (·.1))).bind fun ks => if ks.length < 64 then some (D.lst ((sortI ks).map D.int)) else none) = _
    have : (dE K).map (·.1) = (keys K).map emb := by rw [keys, List.map_map, List.map_map]; rfl
    rw [this, embs_ints, Option.bind_some, if_pos (by simp [keys]; omega)]
    rfl
  have mR : ∀ x, x ∈ sortI (keys K) ↔ ∃ j, Lv mv s j x := fun x => by
    rw [(sortI_perm _).mem_iff]
    constructor
    · intro h
      obtain ⟨e, he, rfl⟩ := List.mem_map.mp h
      exact ⟨_, t.lv e he⟩
    · rintro ⟨j, hj⟩; exact t.all x j hj
  obtain ⟨R, eR⟩ : ∃ R, R = sortI (keys K) := ⟨_, rfl⟩
  rw [← eR] at st mR
  have cl : Cl mv n R := ⟨hl, c.hr, fun x hx => by
    obtain ⟨j, hj⟩ := (mR x).mp hx
    exact hj.rg hm ⟨s0, s1⟩, fun x hx y hy => by
    obtain ⟨j, hj⟩ := (mR x).mp hx
    obtain ⟨i, _, hi⟩ := (Wn.s hj.1 hy).lv
    exact (mR y).mpr ⟨i, hi⟩⟩
  have sR : s ∈ R := (mR s).mpr ⟨0, lv0⟩
  obtain ⟨Q, eQ, f⟩ := ranks_ok cl (by omega) (by omega)
  have ql := f.l
  have is := ixQ (Q := Q) (x := s) s0 (by omega)
  by_cases h : 0 ≤ g0 Q s
  · refine ⟨_, R, ?_, cl, mR, .ends f h⟩
    simp only [m_ending, e, Res.bind_ok, st, optS, eQ, is, dGe_int, decide_eq_true h, toB_bl, if_true, noexn_ok]
  · have hq : g0 Q s = -1 := by
      rcases f.a s s0 s1 with z | ⟨_, z, _⟩
      · exact z
      · exact absurd z h
    have inf := (inf_iff cl f sR).mp hq
    obtain ⟨r, er, E, lm, rl⟩ := endless (s := s) cl f (by omega) (by omega) bigN [s] (by unfold bigN; simp; omega) (by unfold bigN; omega) (by simp) ⟨run_of (by simp) rfl (by simp), fun x hx => by rw [List.mem_singleton.mp hx]; exact sR, fun x hx => by rw [List.mem_singleton.mp hx]; exact inf, by simp⟩
    have er : whileB bigN (.lst [.int s]) m_endless_run_w1 (m_endless_run_b1 (ev mv) (em Q)) = .ok (.next (em r)) := er
    have er2 : m_endless_run (ev mv) (em Q) (.int s) = .ok (em r) := by simp only [m_endless_run, er, Res.bind_ok, aftE_next, noexn_ok]
    have rn := run_ne E.run
    have ne : r ≠ [] := fun z => rn (by rw [z]; rfl)
    have il : dIx (em r) (.int (-1)) = some (.int (lst0 r)) := ixL rn
    obtain ⟨i, x1, x2, x3, x4⟩ := mIndex_ok (lst0_mem rn)
    have ilt : i + 1 < r.length := by
      obtain ⟨j, hj⟩ := List.getElem?_of_mem lm
      have jl := (List.getElem?_eq_some_iff.mp hj).1
      rw [List.length_dropLast] at jl
      rcases Nat.lt_or_ge j i with q | q
      · exfalso
        refine x4 j q ?_
        rw [List.dropLast_eq_take, List.getElem?_take, if_pos jl] at hj
        rw [List.getD_eq_getElem?_getD, hj]; rfl
      · omega
    obtain ⟨g1, g2⟩ := run_get E.run
    have sA : dSlice (em r) none (some ((i : Int) + 1)) = some (em (r.take (i + 1))) := by rw [dSlice_emb, cut_to (by omega), show ((i : Int) + 1).toNat = i + 1 by omega]
    have sB : dSlice (em r) (some (i : Int)) none = some (em (r.drop i)) := by rw [dSlice_emb, cut_from (by omega), Int.toNat_natCast]
    have gt : ∀ k, k ≤ i → (r.take (i + 1)).getD k 0 = r.getD k 0 := fun k hk => by
      rw [List.getD_eq_getElem?_getD, List.getD_eq_getElem?_getD, List.getElem?_take, if_pos (by omega)]
    have gd : ∀ k, (r.drop i).getD k 0 = r.getD (i + k) 0 := fun k => by
      rw [List.getD_eq_getElem?_getD, List.getD_eq_getElem?_getD, List.getElem?_drop]
    have lA : (r.take (i + 1)).length = i + 1 := by rw [List.length_take]; omega
    have lB : (r.drop i).length = r.length - i := List.length_drop
    have lastA : lst0 (r.take (i + 1)) = lst0 r := by
      unfold lst0
      rw [lA, show i + 1 - 1 = i by omega, gt i (Nat.le_refl _)]
      exact x3
    have lastB : lst0 (r.drop i) = lst0 r := by
      unfold lst0
      rw [lB, gd, show i + (r.length - i - 1) = r.length - 1 by omega]
    refine ⟨_, R, ?_, cl, mR, .rnd (A := r.take (i + 1)) (B := r.drop i) inf ?_ ?_ (by omega) (by rw [lastA, lastB]) (by omega) (by omega)⟩
    · simp only [m_ending, e, Res.bind_ok, st, optS, eQ, is, dGe_int, decide_eq_false h, toB_bl, Bool.false_eq_true, if_false, er2, toL_lst, il, x1, dAdd_int, toI_int, sA, sB, noexn_ok]
    · refine run_of (by omega) (by rw [gt 0 (by omega)]; exact g1) fun k hk => ?_
      rw [gt k (by omega), gt (k + 1) (by omega)]
      exact g2 k (by omega)
    · refine run_of (by omega) (by rw [gd, lastA]; exact x3) fun k hk => ?_
      rw [gd, gd, show i + (k + 1) = i + k + 1 by omega]
      exact g2 (i + k) (by omega)
end
end G_k83

set_option Elab.async false
set_option linter.all false
set_option maxRecDepth 100000
set_option maxHeartbeats 2000000
namespace G_k83
open PySem PySem.Spec PyProof.Rows L2 VL VL.Emb
theorem Wn.wk {mv : List Mv} {s x : Int} {j : Nat} (w : Wn mv s j x) : ∀ {k : Nat}, Wk mv k x → Wk mv (j + k) s := by
  induction w with
  | z => intro k h; rw [Nat.zero_add]; exact h
  | @s j d x w e ih =>
    intro k h
    have := ih (k := k + 1) ⟨x, e, h⟩
    rw [show j + 1 + k = j + (k + 1) by omega]; exact this
abbrev wE : D := .str [101, 110, 100, 115]
abbrev wO : D := .str [114, 111, 117, 110, 100]
section
variable {mv : List Mv} {s n : Int} {R : List Int} {d : D}
theorem round_ok {A B : List Int} (rA : runB mv s A = true) (rB : runB mv (lst0 A) B = true) (b2 : 2 ≤ B.length) (lB : lst0 B = lst0 A) (al : A.length ≤ 200) (bl : B.length ≤ 200) : m_shows_round (.int n) (ev mv) (.int s) (em A) (em B) = .ok (.bl true) := by
  have w : ∀ l : List Int, m_are_wholes (em l) = .ok (.bl true) := fun l => by
    have w := wholes_ok (l := l.map emb) fun d hd => by obtain ⟨x, _, rfl⟩ := List.mem_map.mp hd; rfl
    rw [all_int] at w; exact w
  have r1 := run_wh (mv := mv) (s := s) (l := A) (by omega) (w A)
  have r2 := run_wh (mv := mv) (s := lst0 A) (l := B) (by omega) (w B)
  rw [rA] at r1
  rw [rB] at r2
  have iA : dIx (em A) (.int (-1)) = some (.int (lst0 A)) := ixL (run_ne rA)
  have iB : dIx (em B) (.int (-1)) = some (.int (lst0 A)) := by rw [← lB]; exact ixL (run_ne rB)
  have lb : fLen [em B] = some (.int (B.length : Nat)) := by rw [fLen_lst, List.length_map]
  have eq : dEq (.int (lst0 A)) (.int (lst0 A)) = some (.bl true) := by rw [dEq_int]; simp
  have gt : decide ((1 : Int) < (B.length : Nat)) = true := decide_eq_true (by omega)
  generalize em A = a at r1 iA ⊢
  generalize em B = b at r2 iB lb ⊢
  simp only [m_shows_round, r1, Res.bind_ok, truD_bl, optS, Bool.not_true, Bool.false_eq_true, if_false, iA, r2, lb, dGt_int, gt, toB_bl, if_true, iB, eq, nc_bl, noexn_ok]
theorem right_ok (c : Cs mv s n) (cl : Cl mv n R) (hR : ∀ x, x ∈ R ↔ ∃ j, Lv mv s j x) (eo : EO mv s n R d) : m__law_is_right (.int n) (ev mv) (.int s) d = .ok (.bl true) := by
  have n1 := c.n1
  have ml := c.hl
  have s0 := c.s0
  have s1 := c.s1
  have hm : ∀ p ∈ mv, 0 ≤ p.2 ∧ p.2 < n := fun p hp => (c.hr p hp).2
  obtain ⟨M, eM, lM⟩ := longest_ok (mv := mv) (n := n) ml (by omega) (by omega) c.hr
  obtain ⟨F, eF, nF, hF⟩ := lreached_ok (mv := mv) (n := n) (s := s) (by omega) hm ⟨s0, s1⟩
  have fr : ∀ x ∈ F, 0 ≤ x ∧ x < n := fun x hx => by
    obtain ⟨j, hj⟩ := (hF x).mp hx
    exact hj.rg hm ⟨s0, s1⟩
  have mM := lM.l
  obtain ⟨Q', eQ, lQ, gQ⟩ := fill_ok (n := n) mM F (List.replicate n.toNat (-1)) fr (by simp)
  have gQ : ∀ x, 0 ≤ x → x < n → g0 Q' x = if x ∈ F then g0 M x else -1 := fun x x0 x1 => by
    rw [gQ x x0 x1, g0_rep x0 x1]
  have mu := mulQ (n := n) (z := -1) (by omega) (by omega)
  have is := ixQ (Q := M) (x := s) s0 (by omega)
  have j0 : ∀ a b : D, dIx (.tup [a, b]) (.int 0) = some a := fun a b => rfl
  have j1 : ∀ a b : D, dIx (.tup [a, b]) (.int 1) = some b := fun a b => rfl
  have l2 : ∀ a b : D, fLen [.tup [a, b]] = some (.int 2) := fun a b => rfl
  have k0 : ∀ a b c : D, dIx (.tup [a, b, c]) (.int 0) = some a := fun a b c => rfl
  have k1 : ∀ a b c : D, dIx (.tup [a, b, c]) (.int 1) = some b := fun a b c => rfl
  have k2 : ∀ a b c : D, dIx (.tup [a, b, c]) (.int 2) = some c := fun a b c => rfl
  have l3 : ∀ a b c : D, fLen [.tup [a, b, c]] = some (.int 3) := fun a b c => rfl
  have n2 : dNe (.int 2) (.int 2) = some (.bl false) := rfl
  have n3 : dNe (.int 3) (.int 3) = some (.bl false) := rfl
  have t2 : dLt (.int 2) (.int 2) = some (.bl false) := rfl
  have t3 : dLt (.int 3) (.int 2) = some (.bl false) := rfl
  have tt : ∀ l : List D, fIsi "tuple" [.tup l, .non] = some (.bl true) := fun l => rfl
  have sm : m__law_same (.bl true) (.bl true) = .ok (.bl true) := same_ok true true
  have sf : m__law_same (.bl false) (.bl false) = .ok (.bl true) := same_ok false false
  cases eo with
  | @ends Q f h =>
    obtain ⟨r, hr, er⟩ : ∃ r : Nat, Rk mv s r ∧ g0 Q s = r := by
      rcases f.a s s0 s1 with z | ⟨_, z, w⟩
      · omega
      · exact ⟨_, w, by omega⟩
    have sR : s ∈ R := (hR s).mpr ⟨0, lv0⟩
    have rl : ∀ {x : Int} {r : Nat}, x ∈ R → Rk mv x r → (r : Int) < n := fun {x r} hx h => by
      have FR : ∀ x, x ∈ F ↔ x ∈ R := fun x => (hF x).trans (hR x).symm
      have a := h.lt (R := F) (fun x hx y hy => (FR y).mpr (cl.cl x ((FR x).mp hx) y hy)) ((FR x).mpr hx)
      have b := nd_len (n := n) (l := F) nF fr
      omega
    have Mr : ∀ x ∈ R, ∃ t : Nat, Rk mv x t ∧ g0 M x = t := fun x hx => by
      obtain ⟨j, hj⟩ := (hR x).mp hx
      have xb := hj.rg hm ⟨s0, s1⟩
      obtain ⟨t, _, ht⟩ := rk_of (mv := mv) (x := x) (k := r + 1) fun w => by
        have := hr.le (hj.1.wk w); omega
      refine ⟨t, ht, ?_⟩
      have tl := rl hx ht
      obtain ⟨a, b, e⟩ := lM.a x xb.1 xb.2
      have e1 := (e t (by omega)).mpr ht.1
      have e2 : ¬ (((t + 1 : Nat) : Int) ≤ g0 M x) := fun z => ht.2 ((e (t + 1) (by omega)).mp z)
      omega
    have QQ : Q = Q' := ext0 f.l lQ fun x x0 x1 => by
      rw [gQ x x0 x1]
      by_cases hx : x ∈ R
      · rw [if_pos ((hF x).mpr ((hR x).mp hx))]
        obtain ⟨t, ht, e⟩ := Mr x hx
        rw [e]; exact f.b x hx t ht
      · rw [if_neg fun z => hx ((hR x).mpr ((hF x).mp z))]
        rcases f.a x x0 x1 with z | ⟨z, _⟩
        · exact z
        · exact absurd z hx
    have qb : ∀ x ∈ Q, -1 ≤ x := fun x hx => by
      obtain ⟨i, hi⟩ := List.getElem?_of_mem hx
      have il := (List.getElem?_eq_some_iff.mp hi).1
      have ql := f.l
      have e : g0 Q (i : Int) = x := by unfold g0; rw [Int.toNat_natCast, List.getD_eq_getElem?_getD, hi]; rfl
      rcases f.a (i : Int) (by omega) (by omega) with z | ⟨_, z, _⟩ <;> omega
    obtain ⟨t, ht, et⟩ := Mr s sR
    have tl := rl sR ht
    have lt : dLt (.int (g0 M s)) (.int n) = some (.bl true) := by rw [dLt_int, decide_eq_true (by omega)]
    have ns : dNe (.str [101, 110, 100, 115]) (.str [101, 110, 100, 115]) = some (.bl false) := by simp
    have lw := lwholes_ok (l := Q.map (emb : Int → D)) (by have := f.l; simp; omega) fun d hd => by obtain ⟨x, _, rfl⟩ := List.mem_map.mp hd; rfl
    rw [all_int] at lw
    have lw : m__law_are_wholes (em Q) = .ok (.bl true) := lw
    have se := ends_ok c f.l
    rw [ends_yes cl f ⟨s0, s1⟩ h qb] at se
    have nQ : dNe (em Q) (em Q) = some (.bl false) := by rw [dNe_ints]; simp
    rw [← QQ] at eQ
    simp only [m__law_is_right, tt, optS, Res.bind_ok, truD_bl, Bool.not_true, Bool.false_eq_true, if_false, l2, n2, t2, toB_bl, eM, eF, mu, itD_lst, eQ, is, lt, if_true, j0, j1, ns, lw, nQ, se, sm, noexn_ok]
  | @rnd A B inf rA rB b2 lB al bl =>
    obtain ⟨a, b, e⟩ := lM.a s s0 s1
    have ge := (e n.toNat (by omega)).mpr (inf _)
    have lt : dLt (.int (g0 M s)) (.int n) = some (.bl false) := by rw [dLt_int, decide_eq_false (by omega)]
    have ns : dNe (.str [114, 111, 117, 110, 100]) (.str [114, 111, 117, 110, 100]) = some (.bl false) := by simp
    have ra := lrun_ok (mv := mv) (s := s) (l := A) (by omega)
    rw [rA] at ra
    have rb := lrun_ok (mv := mv) (s := lst0 A) (l := B) (by omega)
    rw [rB] at rb
    have iA : dIx (em A) (.int (-1)) = some (.int (lst0 A)) := ixL (run_ne rA)
    have iB : dIx (em B) (.int (-1)) = some (.int (lst0 A)) := by rw [← lB]; exact ixL (run_ne rB)
    have lb : fLen [em B] = some (.int (B.length : Nat)) := by rw [fLen_lst, List.length_map]
    have lt2 : dLt (.int (B.length : Nat)) (.int 2) = some (.bl false) := by rw [dLt_int, decide_eq_false (by omega)]
    have nl : dNe (.int (lst0 A)) (.int (lst0 A)) = some (.bl false) := by rw [dNe_int]; simp
    have sr := round_ok (n := n) rA rB b2 lB al bl
    have mz := mulQ (n := n) (z := 0) (by omega) (by omega)
    have rg := rngI_1 (j := n) (by omega) (by omega)
    have lg : lenG ((ups 0 n.toNat).map (emb : Int → D)) = .ok () := lenG_ok (by simp; omega)
    have m3 : mMap ((ups 0 n.toNat).map emb) (m__law_is_right_c3 (.int n)) = .ok (((ups 0 n.toNat).map fun k => n - k).map emb) := by
      rw [List.map_map]
      exact mMap_map fun k _ => rfl
    have m4 : mMap ((ups 0 n.toNat).map emb) m__law_is_right_c4 = .ok ((ups 0 n.toNat).map emb) := mMap_map fun k _ => rfl
    have five : forB [em Q', em M, em (List.replicate n.toNat 0), em ((ups 0 n.toNat).map fun k => n - k), em (ups 0 n.toNat)] () (m__law_is_right_b2 (.int n) (ev mv) (.int s)) = .ok (allRet true) := by
      have w := forB_chk (l := [Q', M, List.replicate n.toNat 0, (ups 0 n.toNat).map fun k => n - k, ups 0 n.toNat]) (g := em) (f := m__law_is_right_b2 (.int n) (ev mv) (.int s)) (c := fun _ => true) fun P hP => by
        have pl : P.length = n.toNat := by
          simp only [List.mem_cons, List.not_mem_nil, or_false] at hP
          rcases hP with rfl | rfl | rfl | rfl | rfl
          · exact lQ
          · exact mM
          · simp
          · simp
          · simp
        have se := ends_ok c pl
        rw [ends_no inf] at se
        simp only [m__law_is_right_b2, se, Res.bind_ok, sf, truD_bl, optS]
        rfl
      exact w
    have fin : (forB [em Q', em M, em (List.replicate n.toNat 0), em ((ups 0 n.toNat).map fun k => n - k), em (ups 0 n.toNat)] () (m__law_is_right_b2 (.int n) (ev mv) (.int s))).bind (fun r => aftF r fun s78 => (.ok (.bl true) : Res D)) = .ok (.bl true) := by
      rw [five, Res.bind_ok, aft_all]
    simp only [m__law_is_right, tt, optS, Res.bind_ok, truD_bl, Bool.not_true, Bool.false_eq_true, if_false, l3, n3, t3, toB_bl, eM, eF, mu, itD_lst, eQ, is, lt, if_true, k0, k1, k2, ns, ra, iA, rb, iB, lb, lt2, nl, sr, sm, mz, rg, lg, m3, m4, fin, noexn_ok]
end
end G_k83

set_option Elab.async false
set_option linter.all false
set_option maxRecDepth 100000
set_option maxHeartbeats 2000000
namespace G_k83
open PySem PySem.Spec PyProof.Rows L2 VL VL.Emb
theorem pure_ints (l : List Int) : pure1 (em l) = true := by
  show pureDs (l.map emb) = true
  induction l with
  | nil => rfl
  | cons x l ih => simp only [List.map_cons, pureDs, ih, Bool.and_true]; rfl
section
variable {mv : List Mv} {s n : Int} {R : List Int} {d : D}
theorem EO.two (eo : EO mv s n R d) (n1 : n ≤ 20) : ∃ w us r, d = .tup (w :: .lst us :: r) ∧ us.length ≤ 1000 ∧ (w = wE ∨ w = wO) := by
  cases eo with
  | ends f h => exact ⟨_, _, _, rfl, by have := f.l; simp; omega, .inl rfl⟩
  | rnd => exact ⟨_, _, _, rfl, by simp; omega, .inr rfl⟩
theorem EO.inf (eo : EO mv s n R d) (hs : 0 ≤ s ∧ s < n) (inf : Inf mv s) : ∃ A B, d = .tup [wO, A, B] := by
  cases eo with
  | ends f h =>
    rcases f.a s hs.1 hs.2 with z | ⟨_, _, z⟩
    · omega
    · exact absurd ⟨_, z⟩ (inf_no inf)
  | rnd => exact ⟨_, _, rfl⟩
theorem EO.fin (eo : EO mv s n R d) {r : Nat} (h : Rk mv s r) : ∃ Q, d = .tup [wE, em Q] ∧ Ranks mv n R Q := by
  cases eo with
  | ends f _ => exact ⟨_, rfl, f⟩
  | rnd inf => exact absurd ⟨_, h⟩ (inf_no inf)
theorem asks_ok (c : Cs mv s n) : m__law_asks (.int n) (ev mv) (.int s) = .ok (.bl true) := by
  have n1 := c.n1
  have ml := c.hl
  obtain ⟨d, R, e, cl, hR, eo⟩ := ending_ok c
  have ri := right_ok c cl hR eo
  have l1 : fList [ev mv] = some (ev mv) := rfl
  have p1 : pure1 (.int n) = true := rfl
  have p2 : pure1 (.int s) = true := rfl
  have ok : EmbEq.ok mv := fun _ _ => ⟨trivial, trivial⟩
  have nm : dNe (ev mv) (ev mv) = some (.bl false) := dNe_self (a := mv) (by decide) ok
  have qm : dEq (ev mv) (ev mv) = some (.bl true) := dEq_self (a := mv) (by decide) ok
  have nw : ∀ w : D, (w = wE ∨ w = wO) → dEq w w = some (.bl true) := fun w h => by rcases h with rfl | rfl <;> simp
  obtain ⟨w, us, r, rfl, ul, hw⟩ := eo.two n1
  have j0 : dIx (.tup (w :: .lst us :: r)) (.int 0) = some w := by
    show (atI (w :: .lst us :: r) 0) = _
    exact atI_0
  have sc : scaD w = true := by rcases hw with rfl | rfl <;> rfl
  have gl : getL (.tup (w :: .lst us :: r)) 1 = .ok us := rfl
  have cp : capL us 2 = .ok () := by unfold capL; rw [if_pos (by omega)]
  simp only [m__law_asks, l1, optS, Res.bind_ok, p1, p2, pure_mv, ckB_true, nc_int, e, noexn_ok, nm, toB_bl, ri, truD_bl, Bool.not_true, Bool.false_eq_true, if_false, if_true, j0, frA_next, sc, gl, cp, aftF_next, nw w hw, qm]
end
/-! names in a chain -/
theorem nd_of {S : List Int} : ∀ {l : List Int}, S.Nodup → (∀ x ∈ S, x ∈ l) → l.length ≤ S.length → l.Nodup := by
  intro l
  induction l generalizing S with
  | nil => intros; simp
  | cons x r ih =>
    intro nd sub len
    have hx : x ∉ r := fun h => by
      have := List.Nodup.length_le_of_subset (l₁ := S) (l₂ := r) nd fun y hy => by
        rcases List.mem_cons.mp (sub y hy) with rfl | q
        · exact h
        · exact q
      simp at len; omega
    refine List.nodup_cons.mpr ⟨hx, ih (S := S.erase x) (nd.erase x) (fun y hy => ?_) ?_⟩
    · have q := (List.Nodup.mem_erase_iff nd).mp hy
      rcases List.mem_cons.mp (sub y q.2) with z | z
      · exact absurd z q.1
      · exact z
    · have := List.length_erase_le (a := x) (l := S)
      have h2 : S.length - 1 ≤ (S.erase x).length := by
        rw [List.length_erase]; split <;> omega
      simp at len; omega
def cN (l : List Int) (n : Int) : List Mv := (ups 0 (n - 1).toNat).map fun k => (g0 l k, g0 l (k + 1))
theorem mem_cN {l : List Int} {n a b : Int} : (a, b) ∈ cN l n ↔ ∃ k, 0 ≤ k ∧ k < n - 1 ∧ a = g0 l k ∧ b = g0 l (k + 1) := by
  unfold cN
  rw [List.mem_map]
  constructor
  · rintro ⟨k, hk, e⟩
    have := mem_ups.mp hk
    simp only [Prod.mk.injEq] at e
    exact ⟨k, by omega, by omega, e.1.symm, e.2.symm⟩
  · rintro ⟨k, h0, h1, rfl, rfl⟩
    exact ⟨k, mem_ups.mpr (by omega), rfl⟩
structure Nm (n : Int) (l : List Int) : Prop where
  n0 : 1 ≤ n
  n1 : n ≤ 20
  len : l.length = n.toNat
  m : ∀ x, x ∈ l ↔ 0 ≤ x ∧ x < n
section
variable {n : Int} {l : List Int}
theorem Nm.nd (h : Nm n l) : l.Nodup := nd_of (S := ups 0 n.toNat) ((ups_inc _ _).imp fun {a b} q => by omega) (fun x hx => (h.m x).mpr (by have := mem_ups.mp hx; have := h.n0; omega)) (by rw [h.len, ups_len]; omega)
theorem Nm.rg (h : Nm n l) {k : Int} (k0 : 0 ≤ k) (k1 : k < n) : 0 ≤ g0 l k ∧ g0 l k < n := by
  have len := h.len
  refine (h.m _).mp ?_
  unfold g0
  rw [List.getD_eq_getElem?_getD, List.getElem?_eq_getElem (by omega)]
  exact List.getElem_mem _
theorem Nm.inj (h : Nm n l) {j k : Int} (j0 : 0 ≤ j) (j1 : j < n) (k0 : 0 ≤ k) (k1 : k < n) (e : g0 l j = g0 l k) : j = k := by
  have len := h.len
  unfold g0 at e
  rw [List.getD_eq_getElem?_getD, List.getD_eq_getElem?_getD, List.getElem?_eq_getElem (by omega), List.getElem?_eq_getElem (by omega)] at e
  have := (List.getElem_inj (h₀ := by omega) (h₁ := by omega) h.nd).mp e
  omega
theorem Nm.sur (h : Nm n l) {x : Int} (x0 : 0 ≤ x) (x1 : x < n) : ∃ k, 0 ≤ k ∧ k < n ∧ g0 l k = x := by
  have len := h.len
  obtain ⟨i, hi⟩ := List.getElem?_of_mem ((h.m x).mpr ⟨x0, x1⟩)
  have il := (List.getElem?_eq_some_iff.mp hi).1
  exact ⟨i, by omega, by omega, by unfold g0; rw [Int.toNat_natCast, List.getD_eq_getElem?_getD, hi]; rfl⟩
theorem chain_rk (h : Nm n l) : ∀ (k : Nat) (i : Int), 0 ≤ i → i < n → Wk (cN l n) k (g0 l i) → i + k < n
  | 0, i, _, i1, _ => by omega
  | k + 1, i, i0, i1, ⟨y, e, w⟩ => by
    obtain ⟨j, j0, j1, ej, ey⟩ := mem_cN.mp e
    have := h.inj i0 i1 j0 (by omega) ej
    subst this
    rw [ey] at w
    have := chain_rk h k (i + 1) (by omega) (by omega) w
    omega
theorem round_inf (h : Nm n l) {t : Int} (t0 : 0 ≤ t) (t1 : t < n) : ∀ (k : Nat) (x : Int), 0 ≤ x → x < n → Wk (cN l n ++ [(g0 l (n - 1), t)]) k x
  | 0, x, _, _ => trivial
  | k + 1, x, x0, x1 => by
    obtain ⟨i, i0, i1, rfl⟩ := h.sur x0 x1
    by_cases q : i = n - 1
    · exact ⟨t, List.mem_append.mpr (.inr (by rw [q]; simp)), round_inf h t0 t1 k t t0 t1⟩
    · have := h.rg (k := i + 1) (by omega) (by omega)
      exact ⟨g0 l (i + 1), List.mem_append.mpr (.inl (mem_cN.mpr ⟨i, i0, by omega, rfl, rfl⟩)), round_inf h t0 t1 k _ this.1 this.2⟩
end
end G_k83

set_option Elab.async false
set_option linter.all false
set_option maxRecDepth 100000
set_option maxHeartbeats 2000000
namespace G_k83
open PySem PySem.Spec PyProof.Rows L2 VL VL.Emb
theorem cut60 {mv : List Mv} : dSlice (ev mv) none (some 60) = some (ev (mv.take 60)) := by rw [dSlice_emb, cut_to (by omega)]; rfl
theorem b4_ok {n s : Int} {mv : List Mv} (n1 : n ≤ 20) (hr : ∀ p ∈ mv, (0 ≤ p.1 ∧ p.1 < n) ∧ (0 ≤ p.2 ∧ p.2 < n)) (s0 : 0 ≤ s) (s1 : s < n) : m_law_b4 (.int n) (.int s) (ev mv) () = .ok (if (!true) = true then .ret (.bl false) else .next ()) := by
  have c : Cs (mv.take 60) s n := ⟨n1, by rw [List.length_take]; omega, fun p hp => hr p (List.mem_of_mem_take hp), s0, s1⟩
  simp only [m_law_b4, cut60, optS, Res.bind_ok, asks_ok c, truD_bl]
  rfl
theorem law_b {F d : D} (hF : Feed F) : Post (m_law_b1 d F) Nx := by
  unfold m_law_b1
  rw [hF.cell, ckB_true, Res.bind_ok]
  refine Post.bind (course_ok hF) ?_
  rintro ⟨_, F1⟩ ⟨n, ow, mv, rfl, c, hF1⟩
  have hF1 : Feed F1 := hF1
  have n0 := c.n0
  have n1 := c.n1
  have ml := c.ml
  simp only [un3_tup, Res.bind_ok]
  refine Post.draw (n := n) hF1 (by omega) (by omega) fun s F2 hF2 s0 s1 => ?_
  rw [hF2.cell, ckB_true, Res.bind_ok]
  refine Post.bind (names_ok (n := n) hF2 (by omega) (by omega)) ?_
  rintro ⟨_, F3⟩ ⟨l, rfl, ll, hl, hF3⟩
  have hF3 : Feed F3 := hF3
  have nm : Nm n l := ⟨n0, n1, ll, hl⟩
  have ll : l.length = n.toNat := ll
  have rc := rngI_1 (j := n - 1) (by omega) (by omega)
  have lc : lenG ((ups 0 (n - 1).toNat).map (emb : Int → D)) = .ok () := lenG_ok (by simp; omega)
  have mc : mMap ((ups 0 (n - 1).toNat).map emb) (m_law_c2 (em l)) = .ok ((cN l n).map emb) := by
    rw [cN, List.map_map]
    refine mMap_map fun k hk => ?_
    have := mem_ups.mp hk
    simp only [m_law_c2, emb_int, ixQ (Q := l) (x := k) (by omega) (by omega), optS, Res.bind_ok, dAdd_int, ixQ (Q := l) (x := k + 1) (by omega) (by omega)]
    rfl
  have lg : lenG (mv.map (emb : Mv → D)) = .ok () := lenG_ok (by simp; omega)
  obtain ⟨fw, efw⟩ : ∃ fw, fw = mv.filter fun p => decide (g0 l p.1 < g0 l p.2) := ⟨_, rfl⟩
  have fsub : ∀ p ∈ fw, p ∈ mv := fun p hp => by rw [efw] at hp; exact (List.mem_filter.mp hp).1
  have fl : fw.length ≤ 60 := by rw [efw]; exact Nat.le_trans (List.length_filter_le _ _) ml
  have mf : mFil (mv.map emb) (m_law_c3 (em l)) = .ok (fw.map emb) := by
    refine (mFil_map (l := mv) (g := (emb : Mv → D)) (f := m_law_c3 (em l)) (h := (emb : Mv → D)) (c := fun p => decide (g0 l p.1 < g0 l p.2)) fun p hp => ?_).trans (by rw [efw])
    obtain ⟨⟨a0, a1⟩, b0, b1⟩ := c.mr p hp
    have u : un2 (emb p) = .ok (.int p.1, .int p.2) := rfl
    simp only [m_law_c3, u, Res.bind_ok, ixQ (Q := l) (x := p.1) a0 (by omega), optS, ixQ (Q := l) (x := p.2) b0 (by omega), dLt_int, toB_bl]
    split <;> rfl
  simp only [dSub_int, optS, Res.bind_ok, rc, lc, mc, itD_lst, lg, mf]
  refine Post.draw hF3 (by omega) (by omega) fun q F4 hF4 q0 q1 => ?_
  obtain ⟨a0, a1⟩ := nm.rg (k := n - 1) (by omega) (by omega)
  obtain ⟨t0, t1⟩ := nm.rg (k := q) (by omega) (by omega)
  obtain ⟨o0, o1⟩ := nm.rg (k := 0) (by omega) (by omega)
  have i1 := ixQ (Q := l) (x := n - 1) (by omega) (by omega)
  have i2 := ixQ (Q := l) (x := q) (by omega) (by omega)
  have i3 := ixQ (Q := l) (x := 0) (by omega) (by omega)
  have cl : (cN l n).length ≤ 20 := by unfold cN; simp; omega
  have A1 : dAdd (.lst ((cN l n).map emb)) (.lst [.tup [.int (g0 l (n - 1)), .int (g0 l q)]]) = some (ev (cN l n ++ [(g0 l (n - 1), g0 l q)])) := dAdd_one (x := (g0 l (n - 1), g0 l q)) rfl (by omega)
  have A2 : dAdd (.lst (fw.map emb)) (.lst [.tup [.int (g0 l (n - 1)), .int (g0 l q)]]) = some (ev (fw ++ [(g0 l (n - 1), g0 l q)])) := dAdd_one (x := (g0 l (n - 1), g0 l q)) rfl (by omega)
  have S1 : dSlice (ev mv) (some 1) none = some (ev (mv.drop 1)) := by rw [dSlice_emb, cut_from (by omega)]; rfl
  have S2 : dSlice (ev mv) none (some 1) = some (ev (mv.take 1)) := by rw [dSlice_emb, cut_to (by omega)]; rfl
  have A3 : dAdd (ev (mv.drop 1)) (ev (mv.take 1)) = some (ev (mv.drop 1 ++ mv.take 1)) := dAdd_lsts (by simp; omega)
  have cr : ∀ p ∈ cN l n, (0 ≤ p.1 ∧ p.1 < n) ∧ (0 ≤ p.2 ∧ p.2 < n) := fun p hp => by
    obtain ⟨a, b⟩ := p
    obtain ⟨k, k0, k1, rfl, rfl⟩ := mem_cN.mp hp
    exact ⟨nm.rg k0 (by omega), nm.rg (by omega) (by omega)⟩
  have br : ∀ p ∈ [(g0 l (n - 1), g0 l q)], (0 ≤ p.1 ∧ p.1 < n) ∧ (0 ≤ p.2 ∧ p.2 < n) := fun p hp => by
    rw [List.mem_singleton.mp hp]; exact ⟨⟨a0, a1⟩, t0, t1⟩
  have ap : ∀ {a b : List Mv}, (∀ p ∈ a, (0 ≤ p.1 ∧ p.1 < n) ∧ (0 ≤ p.2 ∧ p.2 < n)) → (∀ p ∈ b, (0 ≤ p.1 ∧ p.1 < n) ∧ (0 ≤ p.2 ∧ p.2 < n)) → ∀ p ∈ a ++ b, (0 ≤ p.1 ∧ p.1 < n) ∧ (0 ≤ p.2 ∧ p.2 < n) := fun ha hb p hp => by
    rcases List.mem_append.mp hp with h | h
    · exact ha p h
    · exact hb p h
  have seven : forB [ev mv, ev fw, ev (cN l n), ev (cN l n ++ [(g0 l (n - 1), g0 l q)]), ev (fw ++ [(g0 l (n - 1), g0 l q)]), ev (mv.drop 1 ++ mv.take 1), .lst []] () (m_law_b4 (.int n) (.int s)) = .ok (.next ()) := by
    have w := forB_chk (l := [mv, fw, cN l n, cN l n ++ [(g0 l (n - 1), g0 l q)], fw ++ [(g0 l (n - 1), g0 l q)], mv.drop 1 ++ mv.take 1, []]) (g := ev) (f := m_law_b4 (.int n) (.int s)) (c := fun _ => true) fun P hP => by
      refine b4_ok n1 ?_ s0 s1
      simp only [List.mem_cons, List.not_mem_nil, or_false] at hP
      have fr : ∀ p ∈ fw, (0 ≤ p.1 ∧ p.1 < n) ∧ (0 ≤ p.2 ∧ p.2 < n) := fun p hp => c.mr p (fsub p hp)
      rcases hP with rfl | rfl | rfl | rfl | rfl | rfl | rfl
      · exact c.mr
      · exact fr
      · exact cr
      · exact ap cr br
      · exact ap fr br
      · exact ap (fun p hp => c.mr p (List.mem_of_mem_drop hp)) fun p hp => c.mr p (List.mem_of_mem_take hp)
      · simp
    exact w
  have c1 : Cs (cN l n) (g0 l 0) n := ⟨n1, by omega, cr, o0, o1⟩
  have c2 : Cs (cN l n ++ [(g0 l (n - 1), g0 l q)]) (g0 l 0) n := ⟨n1, by simp; omega, ap cr br, o0, o1⟩
  have k1 : m__law_asks (.int n) (.lst ((cN l n).map emb)) (.int (g0 l 0)) = .ok (.bl true) := asks_ok c1
  have k2 := asks_ok c2
  obtain ⟨d1, R1, e1, _, _, eo1⟩ := ending_ok c1
  obtain ⟨d2, R2, e2, _, _, eo2⟩ := ending_ok c2
  obtain ⟨A, B, rfl⟩ := eo2.inf ⟨o0, o1⟩ fun k => round_inf nm t0 t1 k _ o0 o1
  obtain ⟨r, _, hr⟩ := rk_of (mv := cN l n) (x := g0 l 0) (k := n.toNat) fun w => by
    have := chain_rk nm n.toNat 0 (by omega) (by omega) w; omega
  obtain ⟨Q, rfl, _⟩ := eo1.fin hr
  have e1 : m_ending (.int n) (.lst ((cN l n).map emb)) (.int (g0 l 0)) = .ok (.tup [wE, em Q]) := e1
  have x1 : dIx (.tup [wE, em Q]) (.int 0) = some wE := rfl
  have x2 : dIx (.tup [wO, A, B]) (.int 0) = some wO := rfl
  have z1 : dNe wE (.str [101, 110, 100, 115]) = some (.bl false) := by simp
  have z2 : dNe wO (.str [114, 111, 117, 110, 100]) = some (.bl false) := by simp
  simp only [i1, i2, optS, Res.bind_ok, A1, A2, S1, S2, A3, itD_lst]
  rw [show ([ev mv, .lst (fw.map emb), .lst ((cN l n).map emb), ev (cN l n ++ [(g0 l (n - 1), g0 l q)]), ev (fw ++ [(g0 l (n - 1), g0 l q)]), ev (mv.drop 1 ++ mv.take 1), .lst []] : List D) = [ev mv, ev fw, ev (cN l n), ev (cN l n ++ [(g0 l (n - 1), g0 l q)]), ev (fw ++ [(g0 l (n - 1), g0 l q)]), ev (mv.drop 1 ++ mv.take 1), .lst []] from rfl, seven]
  simp only [Res.bind_ok, aftL_next, i3, optS, k1, truD_bl, Bool.not_true, Bool.false_eq_true, if_false, k2, e1, x1, z1, toB_bl, e2, x2, z2]
  exact Post.ok ⟨F4, rfl, hF4⟩
theorem end1 : m_ending (.int 5) (.lst [.tup [.int 0, .int 1], .tup [.int 1, .int 2], .tup [.int 0, .int 2], .tup [.int 2, .int 3], .tup [.int 4, .int 4]]) (.int 0) = .ok (.tup [.str [101, 110, 100, 115], .lst [.int 3, .int 2, .int 1, .int 0, .int (-1)]]) := by
  have c : Cs [(0, 1), (1, 2), (0, 2), (2, 3), (4, 4)] 0 5 := ⟨by omega, by simp, by simp, by omega, by omega⟩
  obtain ⟨d, R, e, cl, hR, eo⟩ := ending_ok c
  have r3 : Rk [(0, 1), (1, 2), (0, 2), (2, 3), (4, 4)] 3 0 := ⟨trivial, fun ⟨y, h, _⟩ => by simp at h⟩
  have r2 : Rk [(0, 1), (1, 2), (0, 2), (2, 3), (4, 4)] 2 1 := ⟨⟨3, by simp, r3.1⟩, fun ⟨y, h, w⟩ => by
    have : y = 3 := by simpa using h
    subst this; exact r3.2 w⟩
  have r1 : Rk [(0, 1), (1, 2), (0, 2), (2, 3), (4, 4)] 1 2 := ⟨⟨2, by simp, r2.1⟩, fun ⟨y, h, w⟩ => by
    have : y = 2 := by simpa using h
    subst this; exact r2.2 w⟩
  have r0 : Rk [(0, 1), (1, 2), (0, 2), (2, 3), (4, 4)] 0 3 := ⟨⟨1, by simp, r1.1⟩, fun ⟨y, h, w⟩ => by
    have : y = 1 ∨ y = 2 := by simpa using h
    rcases this with rfl | rfl
    · exact r1.2 w
    · exact r2.2 w.down⟩
  obtain ⟨Q, rfl, f⟩ := eo.fin r0
  have m0 : (0 : Int) ∈ R := (hR 0).mpr ⟨0, lv0⟩
  have m1 := cl.cl 0 m0 1 (by simp)
  have m2 := cl.cl 1 m1 2 (by simp)
  have m3 := cl.cl 2 m2 3 (by simp)
  have m4 : (4 : Int) ∉ R := fun h => by
    obtain ⟨j, hj⟩ := (hR 4).mp h
    have only : ∀ (j : Nat) (x : Int), Wn [(0, 1), (1, 2), (0, 2), (2, 3), (4, 4)] 0 j x → x ≠ 4 := by
      intro j x w
      induction w with
      | z => omega
      | s w e ih => intro z; subst z; simp at e; exact ih e
    exact only j 4 hj.1 rfl
  have q0 := f.b 0 m0 3 r0
  have q1 := f.b 1 m1 2 r1
  have q2 := f.b 2 m2 1 r2
  have q3 := f.b 3 m3 0 r3
  have q4 : g0 Q 4 = -1 := by
    rcases f.a 4 (by omega) (by omega) with z | ⟨z, _⟩
    · exact z
    · exact absurd z m4
  have eQ : Q = [3, 2, 1, 0, -1] := ext0 f.l (by rfl) fun x x0 x1 => by
    have : x = 0 ∨ x = 1 ∨ x = 2 ∨ x = 3 ∨ x = 4 := by omega
    rcases this with rfl | rfl | rfl | rfl | rfl
    · rw [q0]; rfl
    · rw [q1]; rfl
    · rw [q2]; rfl
    · rw [q3]; rfl
    · rw [q4]; rfl
  rw [eQ] at e
  exact e
theorem end2 : ∃ A B, m_ending (.int 2) (.lst [.tup [.int 0, .int 1], .tup [.int 1, .int 1]]) (.int 0) = .ok (.tup [.str [114, 111, 117, 110, 100], A, B]) := by
  have c : Cs [(0, 1), (1, 1)] 0 2 := ⟨by omega, by simp, by simp, by omega, by omega⟩
  obtain ⟨d, R, e, cl, hR, eo⟩ := ending_ok c
  have i1 : Inf [(0, 1), (1, 1)] 1 := by
    intro k
    induction k with
    | zero => trivial
    | succ k ih => exact ⟨1, by simp, ih⟩
  have i0 : Inf [(0, 1), (1, 1)] 0 := by
    intro k
    cases k with
    | zero => trivial
    | succ k => exact ⟨1, by simp, i1 k⟩
  obtain ⟨A, B, rfl⟩ := eo.inf (by omega) i0
  exact ⟨A, B, e⟩
theorem law_ok (ns : List Int) : Post (m_law (.scr ns)) (fun d => d = .bl true) := by
  unfold m_law
  refine Post.noexn ?_
  have rg := rngI_1 (j := 2) (by omega) (by omega)
  simp only [feed_ok, Res.bind_ok, rg, optS]
  refine Post.bind (P := Nx) (post_forB (I := fun ds s => Feed s) (B := Nx) (fun d ds f hf => ?_) (fun f hf => ⟨f, rfl, hf⟩) (feed0 ns)) ?_
  · refine (law_b hf).imp fun r hr => ?_
    obtain ⟨s', rfl, h⟩ := hr
    exact h
  · rintro _ ⟨F, rfl, hF⟩
    have q1 : dEq (.tup [.str [101, 110, 100, 115], .lst [.int 3, .int 2, .int 1, .int 0, .int (-1)]]) (.tup [.str [101, 110, 100, 115], .lst [.int 3, .int 2, .int 1, .int 0, .int (-1)]]) = some (.bl true) := by
      have ok : EmbEq.ok (([101, 110, 100, 115], [3, 2, 1, 0, -1]) : Txt × List Int) := ⟨by show ∀ c ∈ ([101, 110, 100, 115] : List Nat), _; decide, fun _ _ => trivial⟩
      exact dEq_self (a := (([101, 110, 100, 115], [3, 2, 1, 0, -1]) : Txt × List Int)) (by decide) ok
    obtain ⟨A, B, e2⟩ := end2
    have x2 : dIx (.tup [.str [114, 111, 117, 110, 100], A, B]) (.int 0) = some wO := rfl
    have q2 : dEq wO (.str [114, 111, 117, 110, 100]) = some (.bl true) := by simp
    simp only [aftF_next, end1, e2, Res.bind_ok, q1, x2, q2, optS, toB_bl, if_true]
    exact Post.ok rfl
theorem law_true (ns : List Int) (h : ns.length ≤ 63) : ∃ os, v_law [.scr ns] = .ok (.bl true, os) := by
  obtain ⟨d, e, rfl⟩ := law_ok ns
  obtain ⟨q, e2, e3⟩ := (e_law (.scr ns)).to e
  exact ⟨[], by rw [e2, e3]⟩
end G_k83

namespace G_k83
open PySem PySem.Spec PyProof.Rows L2 VL
theorem all_mk {l : PySem.W.OpenLaw} {w : World} {K : PySem.W.Frag} {h : Heap} {mg : Str → Option Value} {fa : Addr} (X : K.In h) (G : h.Ns mainGlobals mg) (hfa : mg "law" = some (.ref fa))
    {f0 : Addr} {od0 an0 : Option Addr} {sl0 : Array (Option Value)} {oc0 kV0 dc0 pm0 cd0 ct0 : Value} (a0 : PySem.W.nsIn K mainGlobals "led_to" = some (some (.ref f0))) (l0 : K.lookup f0 = some ⟨oc0, od0, .func (PySem.W.fnOf "led_to" "led_to" (defArgs s_led_to) (defBody s_led_to) (defScope s_led_to) .none kV0 dc0 pm0 an0 cd0 ct0), sl0⟩) (c0 : PySem.W.codeIn K cd0 "led_to" = true) (k0 : PySem.W.keepIn K (.ref f0) = true)
    {f1 : Addr} {od1 an1 : Option Addr} {sl1 : Array (Option Value)} {oc1 kV1 dc1 pm1 cd1 ct1 : Value} (a1 : PySem.W.nsIn K mainGlobals "parents_from" = some (some (.ref f1))) (l1 : K.lookup f1 = some ⟨oc1, od1, .func (PySem.W.fnOf "parents_from" "parents_from" (defArgs s_parents_from) (defBody s_parents_from) (defScope s_parents_from) .none kV1 dc1 pm1 an1 cd1 ct1), sl1⟩) (c1 : PySem.W.codeIn K cd1 "parents_from" = true) (k1 : PySem.W.keepIn K (.ref f1) = true)
    {f2 : Addr} {od2 an2 : Option Addr} {sl2 : Array (Option Value)} {oc2 kV2 dc2 pm2 cd2 ct2 : Value} (a2 : PySem.W.nsIn K mainGlobals "find_ranks" = some (some (.ref f2))) (l2 : K.lookup f2 = some ⟨oc2, od2, .func (PySem.W.fnOf "find_ranks" "find_ranks" (defArgs s_find_ranks) (defBody s_find_ranks) (defScope s_find_ranks) .none kV2 dc2 pm2 an2 cd2 ct2), sl2⟩) (c2 : PySem.W.codeIn K cd2 "find_ranks" = true) (k2 : PySem.W.keepIn K (.ref f2) = true)
    {f3 : Addr} {od3 an3 : Option Addr} {sl3 : Array (Option Value)} {oc3 kV3 dc3 pm3 cd3 ct3 : Value} (a3 : PySem.W.nsIn K mainGlobals "endless_run" = some (some (.ref f3))) (l3 : K.lookup f3 = some ⟨oc3, od3, .func (PySem.W.fnOf "endless_run" "endless_run" (defArgs s_endless_run) (defBody s_endless_run) (defScope s_endless_run) .none kV3 dc3 pm3 an3 cd3 ct3), sl3⟩) (c3 : PySem.W.codeIn K cd3 "endless_run" = true) (k3 : PySem.W.keepIn K (.ref f3) = true)
    {f4 : Addr} {od4 an4 : Option Addr} {sl4 : Array (Option Value)} {oc4 kV4 dc4 pm4 cd4 ct4 : Value} (a4 : PySem.W.nsIn K mainGlobals "ending" = some (some (.ref f4))) (l4 : K.lookup f4 = some ⟨oc4, od4, .func (PySem.W.fnOf "ending" "ending" (defArgs s_ending) (defBody s_ending) (defScope s_ending) .none kV4 dc4 pm4 an4 cd4 ct4), sl4⟩) (c4 : PySem.W.codeIn K cd4 "ending" = true) (k4 : PySem.W.keepIn K (.ref f4) = true)
    {f5 : Addr} {od5 an5 : Option Addr} {sl5 : Array (Option Value)} {oc5 kV5 dc5 pm5 cd5 ct5 : Value} (a5 : PySem.W.nsIn K mainGlobals "is_whole" = some (some (.ref f5))) (l5 : K.lookup f5 = some ⟨oc5, od5, .func (PySem.W.fnOf "is_whole" "is_whole" (defArgs s_is_whole) (defBody s_is_whole) (defScope s_is_whole) .none kV5 dc5 pm5 an5 cd5 ct5), sl5⟩) (c5 : PySem.W.codeIn K cd5 "is_whole" = true) (k5 : PySem.W.keepIn K (.ref f5) = true)
    {f6 : Addr} {od6 an6 : Option Addr} {sl6 : Array (Option Value)} {oc6 kV6 dc6 pm6 cd6 ct6 : Value} (a6 : PySem.W.nsIn K mainGlobals "are_wholes" = some (some (.ref f6))) (l6 : K.lookup f6 = some ⟨oc6, od6, .func (PySem.W.fnOf "are_wholes" "are_wholes" (defArgs s_are_wholes) (defBody s_are_wholes) (defScope s_are_wholes) .none kV6 dc6 pm6 an6 cd6 ct6), sl6⟩) (c6 : PySem.W.codeIn K cd6 "are_wholes" = true) (k6 : PySem.W.keepIn K (.ref f6) = true)
    {f7 : Addr} {od7 an7 : Option Addr} {sl7 : Array (Option Value)} {oc7 kV7 dc7 pm7 cd7 ct7 : Value} (a7 : PySem.W.nsIn K mainGlobals "is_run" = some (some (.ref f7))) (l7 : K.lookup f7 = some ⟨oc7, od7, .func (PySem.W.fnOf "is_run" "is_run" (defArgs s_is_run) (defBody s_is_run) (defScope s_is_run) .none kV7 dc7 pm7 an7 cd7 ct7), sl7⟩) (c7 : PySem.W.codeIn K cd7 "is_run" = true) (k7 : PySem.W.keepIn K (.ref f7) = true)
    {f8 : Addr} {od8 an8 : Option Addr} {sl8 : Array (Option Value)} {oc8 kV8 dc8 pm8 cd8 ct8 : Value} (a8 : PySem.W.nsIn K mainGlobals "are_ranks" = some (some (.ref f8))) (l8 : K.lookup f8 = some ⟨oc8, od8, .func (PySem.W.fnOf "are_ranks" "are_ranks" (defArgs s_are_ranks) (defBody s_are_ranks) (defScope s_are_ranks) .none kV8 dc8 pm8 an8 cd8 ct8), sl8⟩) (c8 : PySem.W.codeIn K cd8 "are_ranks" = true) (k8 : PySem.W.keepIn K (.ref f8) = true)
    {f9 : Addr} {od9 an9 : Option Addr} {sl9 : Array (Option Value)} {oc9 kV9 dc9 pm9 cd9 ct9 : Value} (a9 : PySem.W.nsIn K mainGlobals "shows_ends" = some (some (.ref f9))) (l9 : K.lookup f9 = some ⟨oc9, od9, .func (PySem.W.fnOf "shows_ends" "shows_ends" (defArgs s_shows_ends) (defBody s_shows_ends) (defScope s_shows_ends) .none kV9 dc9 pm9 an9 cd9 ct9), sl9⟩) (c9 : PySem.W.codeIn K cd9 "shows_ends" = true) (k9 : PySem.W.keepIn K (.ref f9) = true)
    {f10 : Addr} {od10 an10 : Option Addr} {sl10 : Array (Option Value)} {oc10 kV10 dc10 pm10 cd10 ct10 : Value} (a10 : PySem.W.nsIn K mainGlobals "shows_round" = some (some (.ref f10))) (l10 : K.lookup f10 = some ⟨oc10, od10, .func (PySem.W.fnOf "shows_round" "shows_round" (defArgs s_shows_round) (defBody s_shows_round) (defScope s_shows_round) .none kV10 dc10 pm10 an10 cd10 ct10), sl10⟩) (c10 : PySem.W.codeIn K cd10 "shows_round" = true) (k10 : PySem.W.keepIn K (.ref f10) = true)
    {f11 : Addr} {od11 an11 : Option Addr} {sl11 : Array (Option Value)} {oc11 kV11 dc11 pm11 cd11 ct11 : Value} (a11 : PySem.W.nsIn K mainGlobals "_law_feed" = some (some (.ref f11))) (l11 : K.lookup f11 = some ⟨oc11, od11, .func (PySem.W.fnOf "_law_feed" "_law_feed" (defArgs s__law_feed) (defBody s__law_feed) (defScope s__law_feed) .none kV11 dc11 pm11 an11 cd11 ct11), sl11⟩) (c11 : PySem.W.codeIn K cd11 "_law_feed" = true) (k11 : PySem.W.keepIn K (.ref f11) = true)
    {f12 : Addr} {od12 an12 : Option Addr} {sl12 : Array (Option Value)} {oc12 kV12 dc12 pm12 cd12 ct12 : Value} (a12 : PySem.W.nsIn K mainGlobals "_law_draw" = some (some (.ref f12))) (l12 : K.lookup f12 = some ⟨oc12, od12, .func (PySem.W.fnOf "_law_draw" "_law_draw" (defArgs s__law_draw) (defBody s__law_draw) (defScope s__law_draw) .none kV12 dc12 pm12 an12 cd12 ct12), sl12⟩) (c12 : PySem.W.codeIn K cd12 "_law_draw" = true) (k12 : PySem.W.keepIn K (.ref f12) = true)
    {f13 : Addr} {od13 an13 : Option Addr} {sl13 : Array (Option Value)} {oc13 kV13 dc13 pm13 cd13 ct13 : Value} (a13 : PySem.W.nsIn K mainGlobals "_law_is_whole" = some (some (.ref f13))) (l13 : K.lookup f13 = some ⟨oc13, od13, .func (PySem.W.fnOf "_law_is_whole" "_law_is_whole" (defArgs s__law_is_whole) (defBody s__law_is_whole) (defScope s__law_is_whole) .none kV13 dc13 pm13 an13 cd13 ct13), sl13⟩) (c13 : PySem.W.codeIn K cd13 "_law_is_whole" = true) (k13 : PySem.W.keepIn K (.ref f13) = true)
    {f14 : Addr} {od14 an14 : Option Addr} {sl14 : Array (Option Value)} {oc14 kV14 dc14 pm14 cd14 ct14 : Value} (a14 : PySem.W.nsIn K mainGlobals "_law_same" = some (some (.ref f14))) (l14 : K.lookup f14 = some ⟨oc14, od14, .func (PySem.W.fnOf "_law_same" "_law_same" (defArgs s__law_same) (defBody s__law_same) (defScope s__law_same) .none kV14 dc14 pm14 an14 cd14 ct14), sl14⟩) (c14 : PySem.W.codeIn K cd14 "_law_same" = true) (k14 : PySem.W.keepIn K (.ref f14) = true)
    {f15 : Addr} {od15 an15 : Option Addr} {sl15 : Array (Option Value)} {oc15 kV15 dc15 pm15 cd15 ct15 : Value} (a15 : PySem.W.nsIn K mainGlobals "_law_names" = some (some (.ref f15))) (l15 : K.lookup f15 = some ⟨oc15, od15, .func (PySem.W.fnOf "_law_names" "_law_names" (defArgs s__law_names) (defBody s__law_names) (defScope s__law_names) .none kV15 dc15 pm15 an15 cd15 ct15), sl15⟩) (c15 : PySem.W.codeIn K cd15 "_law_names" = true) (k15 : PySem.W.keepIn K (.ref f15) = true)
    {f16 : Addr} {od16 an16 : Option Addr} {sl16 : Array (Option Value)} {oc16 kV16 dc16 pm16 cd16 ct16 : Value} (a16 : PySem.W.nsIn K mainGlobals "_law_course" = some (some (.ref f16))) (l16 : K.lookup f16 = some ⟨oc16, od16, .func (PySem.W.fnOf "_law_course" "_law_course" (defArgs s__law_course) (defBody s__law_course) (defScope s__law_course) .none kV16 dc16 pm16 an16 cd16 ct16), sl16⟩) (c16 : PySem.W.codeIn K cd16 "_law_course" = true) (k16 : PySem.W.keepIn K (.ref f16) = true)
    {f17 : Addr} {od17 an17 : Option Addr} {sl17 : Array (Option Value)} {oc17 kV17 dc17 pm17 cd17 ct17 : Value} (a17 : PySem.W.nsIn K mainGlobals "_law_are_wholes" = some (some (.ref f17))) (l17 : K.lookup f17 = some ⟨oc17, od17, .func (PySem.W.fnOf "_law_are_wholes" "_law_are_wholes" (defArgs s__law_are_wholes) (defBody s__law_are_wholes) (defScope s__law_are_wholes) .none kV17 dc17 pm17 an17 cd17 ct17), sl17⟩) (c17 : PySem.W.codeIn K cd17 "_law_are_wholes" = true) (k17 : PySem.W.keepIn K (.ref f17) = true)
    {f18 : Addr} {od18 an18 : Option Addr} {sl18 : Array (Option Value)} {oc18 kV18 dc18 pm18 cd18 ct18 : Value} (a18 : PySem.W.nsIn K mainGlobals "_law_is_run" = some (some (.ref f18))) (l18 : K.lookup f18 = some ⟨oc18, od18, .func (PySem.W.fnOf "_law_is_run" "_law_is_run" (defArgs s__law_is_run) (defBody s__law_is_run) (defScope s__law_is_run) .none kV18 dc18 pm18 an18 cd18 ct18), sl18⟩) (c18 : PySem.W.codeIn K cd18 "_law_is_run" = true) (k18 : PySem.W.keepIn K (.ref f18) = true)
    {f19 : Addr} {od19 an19 : Option Addr} {sl19 : Array (Option Value)} {oc19 kV19 dc19 pm19 cd19 ct19 : Value} (a19 : PySem.W.nsIn K mainGlobals "_law_longest" = some (some (.ref f19))) (l19 : K.lookup f19 = some ⟨oc19, od19, .func (PySem.W.fnOf "_law_longest" "_law_longest" (defArgs s__law_longest) (defBody s__law_longest) (defScope s__law_longest) .none kV19 dc19 pm19 an19 cd19 ct19), sl19⟩) (c19 : PySem.W.codeIn K cd19 "_law_longest" = true) (k19 : PySem.W.keepIn K (.ref f19) = true)
    {f20 : Addr} {od20 an20 : Option Addr} {sl20 : Array (Option Value)} {oc20 kV20 dc20 pm20 cd20 ct20 : Value} (a20 : PySem.W.nsIn K mainGlobals "_law_reached" = some (some (.ref f20))) (l20 : K.lookup f20 = some ⟨oc20, od20, .func (PySem.W.fnOf "_law_reached" "_law_reached" (defArgs s__law_reached) (defBody s__law_reached) (defScope s__law_reached) .none kV20 dc20 pm20 an20 cd20 ct20), sl20⟩) (c20 : PySem.W.codeIn K cd20 "_law_reached" = true) (k20 : PySem.W.keepIn K (.ref f20) = true)
    {f21 : Addr} {od21 an21 : Option Addr} {sl21 : Array (Option Value)} {oc21 kV21 dc21 pm21 cd21 ct21 : Value} (a21 : PySem.W.nsIn K mainGlobals "_law_is_right" = some (some (.ref f21))) (l21 : K.lookup f21 = some ⟨oc21, od21, .func (PySem.W.fnOf "_law_is_right" "_law_is_right" (defArgs s__law_is_right) (defBody s__law_is_right) (defScope s__law_is_right) .none kV21 dc21 pm21 an21 cd21 ct21), sl21⟩) (c21 : PySem.W.codeIn K cd21 "_law_is_right" = true) (k21 : PySem.W.keepIn K (.ref f21) = true)
    {f22 : Addr} {od22 an22 : Option Addr} {sl22 : Array (Option Value)} {oc22 kV22 dc22 pm22 cd22 ct22 : Value} (a22 : PySem.W.nsIn K mainGlobals "_law_asks" = some (some (.ref f22))) (l22 : K.lookup f22 = some ⟨oc22, od22, .func (PySem.W.fnOf "_law_asks" "_law_asks" (defArgs s__law_asks) (defBody s__law_asks) (defScope s__law_asks) .none kV22 dc22 pm22 an22 cd22 ct22), sl22⟩) (c22 : PySem.W.codeIn K cd22 "_law_asks" = true) (k22 : PySem.W.keepIn K (.ref f22) = true)
    {f23 : Addr} {od23 an23 : Option Addr} {sl23 : Array (Option Value)} {oc23 kV23 dc23 pm23 cd23 ct23 : Value} (a23 : PySem.W.nsIn K mainGlobals "law" = some (some (.ref f23))) (l23 : K.lookup f23 = some ⟨oc23, od23, .func (PySem.W.fnOf "law" "law" (defArgs s_law) (defBody s_law) (defScope s_law) .none kV23 dc23 pm23 an23 cd23 ct23), sl23⟩) (c23 : PySem.W.codeIn K cd23 "law" = true) (k23 : PySem.W.keepIn K (.ref f23) = true)
    (z_abs : PySem.W.nsIn K mainGlobals "abs" = some none)
    (z_bool : PySem.W.nsIn K mainGlobals "bool" = some none)
    (z_int : PySem.W.nsIn K mainGlobals "int" = some none)
    (z_isinstance : PySem.W.nsIn K mainGlobals "isinstance" = some none)
    (z_len : PySem.W.nsIn K mainGlobals "len" = some none)
    (z_list : PySem.W.nsIn K mainGlobals "list" = some none)
    (z_max : PySem.W.nsIn K mainGlobals "max" = some none)
    (z_min : PySem.W.nsIn K mainGlobals "min" = some none)
    (z_range : PySem.W.nsIn K mainGlobals "range" = some none)
    (z_sorted : PySem.W.nsIn K mainGlobals "sorted" = some none)
    (z_tuple : PySem.W.nsIn K mainGlobals "tuple" = some none)
    : ∃ fd : FuncData, (∀ (s : Shared) (v : Value), BindsTo s fd ⟨[v], []⟩ [("script", v)]) ∧ ∀ base : Heap, K.In base → base.Ns mainGlobals mg → FnOk l.prog w K mg base CX0 9 fa fd ["script"] (spL K) := by
  have e := hfa.symm.trans (PySem.W.mg_of X G a23)
  cases e
  let T : Top K mg := ⟨_, _, fun_mk (st := s_led_to) l0 c0 k0, PySem.W.mg_of X G a0, (fun_mk (st := s_led_to) l0 c0 k0).binds (ps := ["moves", "state"]) fun _ _ _ _ _ _ us hl => match us, hl with | [_, _], _ => rfl,
    _, _, fun_mk (st := s_parents_from) l1 c1 k1, PySem.W.mg_of X G a1, (fun_mk (st := s_parents_from) l1 c1 k1).binds (ps := ["moves", "start"]) fun _ _ _ _ _ _ us hl => match us, hl with | [_, _], _ => rfl,
    _, _, fun_mk (st := s_find_ranks) l2 c2 k2, PySem.W.mg_of X G a2, (fun_mk (st := s_find_ranks) l2 c2 k2).binds (ps := ["n", "moves", "reached"]) fun _ _ _ _ _ _ us hl => match us, hl with | [_, _, _], _ => rfl,
    _, _, fun_mk (st := s_endless_run) l3 c3 k3, PySem.W.mg_of X G a3, (fun_mk (st := s_endless_run) l3 c3 k3).binds (ps := ["moves", "ranks", "start"]) fun _ _ _ _ _ _ us hl => match us, hl with | [_, _, _], _ => rfl,
    _, _, fun_mk (st := s_ending) l4 c4 k4, PySem.W.mg_of X G a4, (fun_mk (st := s_ending) l4 c4 k4).binds (ps := ["n", "moves", "start"]) fun _ _ _ _ _ _ us hl => match us, hl with | [_, _, _], _ => rfl,
    _, _, fun_mk (st := s_is_whole) l5 c5 k5, PySem.W.mg_of X G a5, (fun_mk (st := s_is_whole) l5 c5 k5).binds (ps := ["value"]) fun _ _ _ _ _ _ us hl => match us, hl with | [_], _ => rfl,
    _, _, fun_mk (st := s_are_wholes) l6 c6 k6, PySem.W.mg_of X G a6, (fun_mk (st := s_are_wholes) l6 c6 k6).binds (ps := ["value"]) fun _ _ _ _ _ _ us hl => match us, hl with | [_], _ => rfl,
    _, _, fun_mk (st := s_is_run) l7 c7 k7, PySem.W.mg_of X G a7, (fun_mk (st := s_is_run) l7 c7 k7).binds (ps := ["moves", "start", "run"]) fun _ _ _ _ _ _ us hl => match us, hl with | [_, _, _], _ => rfl,
    _, _, fun_mk (st := s_are_ranks) l8 c8 k8, PySem.W.mg_of X G a8, (fun_mk (st := s_are_ranks) l8 c8 k8).binds (ps := ["n", "ranks"]) fun _ _ _ _ _ _ us hl => match us, hl with | [_, _], _ => rfl,
    _, _, fun_mk (st := s_shows_ends) l9 c9 k9, PySem.W.mg_of X G a9, (fun_mk (st := s_shows_ends) l9 c9 k9).binds (ps := ["n", "moves", "start", "ranks"]) fun _ _ _ _ _ _ us hl => match us, hl with | [_, _, _, _], _ => rfl,
    _, _, fun_mk (st := s_shows_round) l10 c10 k10, PySem.W.mg_of X G a10, (fun_mk (st := s_shows_round) l10 c10 k10).binds (ps := ["n", "moves", "start", "stem", "loop"]) fun _ _ _ _ _ _ us hl => match us, hl with | [_, _, _, _, _], _ => rfl,
    _, _, fun_mk (st := s__law_feed) l11 c11 k11, PySem.W.mg_of X G a11, (fun_mk (st := s__law_feed) l11 c11 k11).binds (ps := ["script"]) fun _ _ _ _ _ _ us hl => match us, hl with | [_], _ => rfl,
    _, _, fun_mk (st := s__law_draw) l12 c12 k12, PySem.W.mg_of X G a12, (fun_mk (st := s__law_draw) l12 c12 k12).binds (ps := ["feed", "many"]) fun _ _ _ _ _ _ us hl => match us, hl with | [_, _], _ => rfl,
    _, _, fun_mk (st := s__law_is_whole) l13 c13 k13, PySem.W.mg_of X G a13, (fun_mk (st := s__law_is_whole) l13 c13 k13).binds (ps := ["x"]) fun _ _ _ _ _ _ us hl => match us, hl with | [_], _ => rfl,
    _, _, fun_mk (st := s__law_same) l14 c14 k14, PySem.W.mg_of X G a14, (fun_mk (st := s__law_same) l14 c14 k14).binds (ps := ["told", "due"]) fun _ _ _ _ _ _ us hl => match us, hl with | [_, _], _ => rfl,
    _, _, fun_mk (st := s__law_names) l15 c15 k15, PySem.W.mg_of X G a15, (fun_mk (st := s__law_names) l15 c15 k15).binds (ps := ["feed", "n"]) fun _ _ _ _ _ _ us hl => match us, hl with | [_, _], _ => rfl,
    _, _, fun_mk (st := s__law_course) l16 c16 k16, PySem.W.mg_of X G a16, (fun_mk (st := s__law_course) l16 c16 k16).binds (ps := ["feed"]) fun _ _ _ _ _ _ us hl => match us, hl with | [_], _ => rfl,
    _, _, fun_mk (st := s__law_are_wholes) l17 c17 k17, PySem.W.mg_of X G a17, (fun_mk (st := s__law_are_wholes) l17 c17 k17).binds (ps := ["row"]) fun _ _ _ _ _ _ us hl => match us, hl with | [_], _ => rfl,
    _, _, fun_mk (st := s__law_is_run) l18 c18 k18, PySem.W.mg_of X G a18, (fun_mk (st := s__law_is_run) l18 c18 k18).binds (ps := ["moves", "start", "run"]) fun _ _ _ _ _ _ us hl => match us, hl with | [_, _, _], _ => rfl,
    _, _, fun_mk (st := s__law_longest) l19 c19 k19, PySem.W.mg_of X G a19, (fun_mk (st := s__law_longest) l19 c19 k19).binds (ps := ["n", "moves"]) fun _ _ _ _ _ _ us hl => match us, hl with | [_, _], _ => rfl,
    _, _, fun_mk (st := s__law_reached) l20 c20 k20, PySem.W.mg_of X G a20, (fun_mk (st := s__law_reached) l20 c20 k20).binds (ps := ["n", "moves", "start"]) fun _ _ _ _ _ _ us hl => match us, hl with | [_, _, _], _ => rfl,
    _, _, fun_mk (st := s__law_is_right) l21 c21 k21, PySem.W.mg_of X G a21, (fun_mk (st := s__law_is_right) l21 c21 k21).binds (ps := ["n", "moves", "start", "told"]) fun _ _ _ _ _ _ us hl => match us, hl with | [_, _, _, _], _ => rfl,
    _, _, fun_mk (st := s__law_asks) l22 c22 k22, PySem.W.mg_of X G a22, (fun_mk (st := s__law_asks) l22 c22 k22).binds (ps := ["n", "moves", "start"]) fun _ _ _ _ _ _ us hl => match us, hl with | [_, _, _], _ => rfl,
    _, _, fun_mk (st := s_law) l23 c23 k23, PySem.W.mg_of X G a23, (fun_mk (st := s_law) l23 c23 k23).binds (ps := ["script"]) fun _ _ _ _ _ _ us hl => match us, hl with | [_], _ => rfl,
    PySem.W.mg_none_of X G z_abs,
    PySem.W.mg_none_of X G z_bool,
    PySem.W.mg_none_of X G z_int,
    PySem.W.mg_none_of X G z_isinstance,
    PySem.W.mg_none_of X G z_len,
    PySem.W.mg_none_of X G z_list,
    PySem.W.mg_none_of X G z_max,
    PySem.W.mg_none_of X G z_min,
    PySem.W.mg_none_of X G z_range,
    PySem.W.mg_none_of X G z_sorted,
    PySem.W.mg_none_of X G z_tuple⟩
  exact ⟨PySem.W.fnOf "law" "law" (defArgs s_law) (defBody s_law) (defScope s_law) .none kV23 dc23 pm23 an23 cd23 ct23, fun s v => .of_eq rfl, fun base _ _ => law_imp (ok_law T) (by decide) rfl law_true⟩
end G_k83
open PySem PySem.W PyProof.Rows
set_option maxHeartbeats 0 in
theorem PySem.Challenge.cw_rulingstold_k83_whole_ends_and_rounds_holds : PySem.Challenge.rw_rulingstold_k83_whole_ends_and_rounds.Holds := by
  w_on; o_law; k_head; (case hw => w_witness2)
  k_fill
  refine L2.walk_of (l := PySem.Challenge.rw_rulingstold_k83_whole_ends_and_rounds) (n := 63) (k := 9) (x := "script") (CX := fun _ => L2.CX0) (sp := fun w => VL.spL _) rfl (by decide) rfl ⟨rfl, by decide, by decide⟩ (fun w h Y => PySem.W.kIn_of Y) ?F (fun _ _ a ns hl _ hS => ⟨a, ns, rfl, hS, hl, fun _ => rfl⟩) (fun _ _ _ _ _ h => h)
  case F =>
    intro w mg fa h KX G hmg
    refine' G_k83.all_mk KX G hmg ?a0 ?l0 ?c0 ?k0 ?a1 ?l1 ?c1 ?k1 ?a2 ?l2 ?c2 ?k2 ?a3 ?l3 ?c3 ?k3 ?a4 ?l4 ?c4 ?k4 ?a5 ?l5 ?c5 ?k5 ?a6 ?l6 ?c6 ?k6 ?a7 ?l7 ?c7 ?k7 ?a8 ?l8 ?c8 ?k8 ?a9 ?l9 ?c9 ?k9 ?a10 ?l10 ?c10 ?k10 ?a11 ?l11 ?c11 ?k11 ?a12 ?l12 ?c12 ?k12 ?a13 ?l13 ?c13 ?k13 ?a14 ?l14 ?c14 ?k14 ?a15 ?l15 ?c15 ?k15 ?a16 ?l16 ?c16 ?k16 ?a17 ?l17 ?c17 ?k17 ?a18 ?l18 ?c18 ?k18 ?a19 ?l19 ?c19 ?k19 ?a20 ?l20 ?c20 ?k20 ?a21 ?l21 ?c21 ?k21 ?a22 ?l22 ?c22 ?k22 ?a23 ?l23 ?c23 ?k23 ?z_abs ?z_bool ?z_int ?z_isinstance ?z_len ?z_list ?z_max ?z_min ?z_range ?z_sorted ?z_tuple
    (case a0 => k_is); (case l0 => k_is); (case c0 => k_is); (case k0 => k_is); (case a1 => k_is); (case l1 => k_is); (case c1 => k_is); (case k1 => k_is); (case a2 => k_is); (case l2 => k_is); (case c2 => k_is); (case k2 => k_is); (case a3 => k_is); (case l3 => k_is); (case c3 => k_is); (case k3 => k_is); (case a4 => k_is); (case l4 => k_is); (case c4 => k_is); (case k4 => k_is); (case a5 => k_is); (case l5 => k_is); (case c5 => k_is); (case k5 => k_is); (case a6 => k_is); (case l6 => k_is); (case c6 => k_is); (case k6 => k_is); (case a7 => k_is); (case l7 => k_is); (case c7 => k_is); (case k7 => k_is); (case a8 => k_is); (case l8 => k_is); (case c8 => k_is); (case k8 => k_is); (case a9 => k_is); (case l9 => k_is); (case c9 => k_is); (case k9 => k_is); (case a10 => k_is); (case l10 => k_is); (case c10 => k_is); (case k10 => k_is); (case a11 => k_is); (case l11 => k_is); (case c11 => k_is); (case k11 => k_is); (case a12 => k_is); (case l12 => k_is); (case c12 => k_is); (case k12 => k_is); (case a13 => k_is); (case l13 => k_is); (case c13 => k_is); (case k13 => k_is); (case a14 => k_is); (case l14 => k_is); (case c14 => k_is); (case k14 => k_is); (case a15 => k_is); (case l15 => k_is); (case c15 => k_is); (case k15 => k_is); (case a16 => k_is); (case l16 => k_is); (case c16 => k_is); (case k16 => k_is); (case a17 => k_is); (case l17 => k_is); (case c17 => k_is); (case k17 => k_is); (case a18 => k_is); (case l18 => k_is); (case c18 => k_is); (case k18 => k_is); (case a19 => k_is); (case l19 => k_is); (case c19 => k_is); (case k19 => k_is); (case a20 => k_is); (case l20 => k_is); (case c20 => k_is); (case k20 => k_is); (case a21 => k_is); (case l21 => k_is); (case c21 => k_is); (case k21 => k_is); (case a22 => k_is); (case l22 => k_is); (case c22 => k_is); (case k22 => k_is); (case a23 => k_is); (case l23 => k_is); (case c23 => k_is); (case k23 => k_is); (case z_abs => k_is); (case z_bool => k_is); (case z_int => k_is); (case z_isinstance => k_is); (case z_len => k_is); (case z_list => k_is); (case z_max => k_is); (case z_min => k_is); (case z_range => k_is); (case z_sorted => k_is); (case z_tuple => k_is)


