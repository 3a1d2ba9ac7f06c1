import PyProof.Rows.All
import Wide.All
import OpenK.AllK
import Wide.FinOn
import HandS.ForMost
import HandS.ForExc
import HandS.CallSlots
import HandS.Text
import HandS.IsInst
import HandS.ExcIs
import HandS.Wide
import HandS.SortInts
import HandS.Head0
import HandS.Head1
import HandS.Head2
import HandS.HeadEnd
import HandS.HeadHook1
import HandS.HeadHook2
import HandS.HeadHook3
import HandS.HeadHook4
import HandS.Defaults
import HandS.Deep
import HandS.Iter
import PyProof.Rows.StrMeet
import PyProof.Rows.TmSorted
import HandS.Replace
import HandS.Codes
import OpenK.KOps
import OpenK.KMeth
import PySem.Challenge.RW_meridian_k07_clocks_within_bound
set_option Elab.async false
set_option linter.all false
set_option maxRecDepth 100000
set_option maxHeartbeats 4000000
/-! VL1: data, and how a heap bears it. -/
namespace VL
open PySem PySem.Spec L2

/-- a plain value -/
inductive Sc where
  | non | bl (b : Bool) | int (i : Int) | str (x : Str)
  deriving DecidableEq
/-- the kind of a node -/
inductive Kn where
  | lst | tup | dic (ks : List Key) | dit (ks : List (List Key)) | ins (c : String) (fs : List String)
  deriving DecidableEq
/-- data; the flag: true, owned (may be changed in place); false, frozen (may be shared) -/
inductive D where
  | leaf (s : Sc)
  | node (o : Bool) (k : Kn) (ds : List D)

abbrev D.int (i : Int) : D := .leaf (.int i)
abbrev D.bl (b : Bool) : D := .leaf (.bl b)
abbrev D.str (x : Str) : D := .leaf (.str x)
abbrev D.non : D := .leaf .non
abbrev D.lst (o : Bool) (ds : List D) : D := .node o .lst ds
abbrev D.tup (o : Bool) (ds : List D) : D := .node o .tup ds

mutual
def D.frz : D → D
  | .leaf s => .leaf s
  | .node _ k ds => .node false k (D.frzL ds)
def D.frzL : List D → List D
  | [] => []
  | d :: ds => d.frz :: D.frzL ds
end
theorem frzL_map (ds : List D) : D.frzL ds = ds.map D.frz := by
  induction ds with
  | nil => rfl
  | cons d r ih => simp [D.frzL, ih]
/-- may be shared as it stands -/
def D.shr : D → Bool
  | .leaf _ => true
  | .node o _ _ => !o

def ScV : Sc → V → Prop
  | .non, v => v = .non
  | .bl b, v => v = .bl b
  | .int i, v => v = .int i
  | .str x, v => v = .str x

def Kn.fits : Kn → Nat → Prop
  | .lst, _ => True
  | .tup, _ => True
  | .dic ks, n => ks.length = n
  | .dit ks, n => ks.length = n
  | .ins _ fs, n => fs.length = n
def objOf (C dx : Addr) : Kn → List V → HO
  | .lst, vs => .lst vs
  | .tup, vs => .tup vs
  | .dic ks, vs => .dK (ks.zip vs)
  | .dit ks, vs => .dT (ks.zip vs)
  | .ins _ fs, vs => .ins C dx ((fs.map fun x => Str.ofString x).zip vs)
def Kn.insOk (T : String → Option Addr) (C : Addr) (H : Hp) (a dx : Addr) : Kn → Prop
  | .ins c _ => T c = some C ∧ H dx = some (.own a) ∧ dx ≠ a
  | _ => dx = a
/-- an owned node -/
def NodeW (T : String → Option Addr) (H : Hp) (a dx : Addr) (k : Kn) (vs : List V) : Prop :=
  k.fits vs.length ∧ ∃ C, H a = some (objOf C dx k vs) ∧ k.insOk T C H a dx
/-- a node that is read -/
def NodeF (K : PySem.W.Frag) (T : String → Option Addr) (F : Hp) (a : Addr) (k : Kn) (vs : List V) : Prop :=
  k.fits vs.length ∧ match k with
    | .lst => SqL K F a vs
    | .tup => SqT K F a vs
    | .dic ks => Rd F a (.dK (ks.zip vs))
    | .dit ks => Rd F a (.dT (ks.zip vs))
    | .ins c fs => ∃ C dx, T c = some C ∧ F a = some (.ins C dx ((fs.map fun x => Str.ofString x).zip vs)) ∧ F dx = some (.own a)

section
variable {K : PySem.W.Frag} {T : String → Option Addr} {F F' H H' : Hp} {a dx : Addr} {k : Kn} {vs : List V}
theorem Rd.mono {u : HO} (s : Same F F') (h : Rd F a u) : Rd F' a u := by
  rcases h with h | ⟨o, h⟩
  · exact .inl (s _ _ h)
  · exact .inr ⟨o, s _ _ h⟩
theorem SqT.mono (s : Same F F') (h : SqT K F a vs) : SqT K F' a vs := by
  rcases h with h | h
  · exact .inl (Rd.mono s h)
  · exact .inr h
theorem NodeF.mono (s : Same F F') (h : NodeF K T F a k vs) : NodeF K T F' a k vs := by
  obtain ⟨h1, h2⟩ := h
  refine ⟨h1, ?_⟩
  cases k with
  | lst => exact s.seq h2
  | tup => exact SqT.mono s h2
  | dic ks => exact Rd.mono s h2
  | dit ks => exact Rd.mono s h2
  | ins c fs =>
    obtain ⟨C, dx, e1, e2, e3⟩ := h2
    exact ⟨C, dx, e1, s _ _ e2, s _ _ e3⟩
theorem NodeW.toF (h : NodeW T H a dx k vs) : NodeF K T H a k vs := by
  obtain ⟨h1, C, h2, h3⟩ := h
  refine ⟨h1, ?_⟩
  cases k with
  | lst => exact .inl (.inl h2)
  | tup => exact .inl (.inl h2)
  | dic ks => exact .inl h2
  | dit ks => exact .inl h2
  | ins c fs => exact ⟨C, dx, h3.1, h2, h3.2.1⟩
theorem NodeW.same (h : NodeW T H a dx k vs) (ha : H' a = H a) (hd : H' dx = H dx) : NodeW T H' a dx k vs := by
  obtain ⟨h1, C, h2, h3⟩ := h
  refine ⟨h1, C, by rw [ha]; exact h2, ?_⟩
  cases k with
  | ins c fs => exact ⟨h3.1, by rw [hd]; exact h3.2.1, h3.2.2⟩
  | _ => exact h3
theorem NodeW.here (h : NodeW T H a dx k vs) : ∃ o, H a = some o := let ⟨_, _, e, _⟩ := h; ⟨_, e⟩
theorem NodeW.hereD (h : NodeW T H a dx k vs) : ∃ o, H dx = some o := by
  obtain ⟨_, C, e, z⟩ := h
  cases k with
  | ins c fs => exact ⟨_, z.2.1⟩
  | _ => have z' : dx = a := z; rw [z']; exact ⟨_, e⟩
end

abbrev Ft := Addr → Prop
def Emp (P : Ft) : Prop := ∀ a, ¬ P a
def Dj (P Q : Ft) : Prop := ∀ a, P a → Q a → False
def Uni (P A B : Ft) : Prop := ∀ a, P a ↔ A a ∨ B a
theorem Dj.symm {P Q : Ft} (h : Dj P Q) : Dj Q P := fun a x y => h a y x

section
variable (K : PySem.W.Frag) (T : String → Option Addr)
mutual
/-- frozen data: F bears it -/
inductive Fz (F : Hp) : D → V → Prop
  | leaf {s : Sc} {v : V} : ScV s v → Fz F (.leaf s) v
  | node {a : Addr} {k : Kn} {vs : List V} {ds : List D} : NodeF K T F a k vs → FzL F ds vs → Fz F (.node false k ds) (.ref a)
inductive FzL (F : Hp) : List D → List V → Prop
  | nil : FzL F [] []
  | cons {d : D} {v : V} {ds : List D} {vs : List V} : Fz F d v → FzL F ds vs → FzL F (d :: ds) (v :: vs)
end
mutual
/-- data: its owned part stands in H at the addresses P, its frozen part is borne by F -/
inductive Ow (F H : Hp) : D → V → Ft → Prop
  | leaf {s : Sc} {v : V} {P : Ft} : ScV s v → Emp P → Ow F H (.leaf s) v P
  | fz {k : Kn} {ds : List D} {v : V} {P : Ft} : Fz K T F (.node false k ds) v → Emp P → Ow F H (.node false k ds) v P
  | own {a dx : Addr} {k : Kn} {vs : List V} {ds : List D} {P P0 : Ft} : NodeW T H a dx k vs → OwL F H ds vs P0 → ¬ P0 a → ¬ P0 dx → F a = none → F dx = none → (∀ b, P b ↔ (b = a ∨ b = dx) ∨ P0 b) → Ow F H (.node true k ds) (.ref a) P
inductive OwL (F H : Hp) : List D → List V → Ft → Prop
  | nil {P : Ft} : Emp P → OwL F H [] [] P
  | cons {d : D} {v : V} {ds : List D} {vs : List V} {P P1 P2 : Ft} : Ow F H d v P1 → OwL F H ds vs P2 → Dj P1 P2 → Uni P P1 P2 → OwL F H (d :: ds) (v :: vs) P
end
end

section
variable {K : PySem.W.Frag} {T : String → Option Addr} {F F' H H' : Hp}
theorem Fz.mono_both (s : Same F F') : (∀ d v, Fz K T F d v → Fz K T F' d v) ∧ ∀ ds vs, FzL K T F ds vs → FzL K T F' ds vs := by
  constructor
  · intro d v h
    refine Fz.rec (motive_1 := fun d v _ => Fz K T F' d v) (motive_2 := fun ds vs _ => FzL K T F' ds vs) ?_ ?_ ?_ ?_ h
    · intro s v h1; exact .leaf h1
    · intro a k vs ds h1 _ h2; exact .node (h1.mono s) h2
    · exact .nil
    · intro d v ds vs _ _ h1 h2; exact .cons h1 h2
  · intro d v h
    refine FzL.rec (motive_1 := fun d v _ => Fz K T F' d v) (motive_2 := fun ds vs _ => FzL K T F' ds vs) ?_ ?_ ?_ ?_ h
    · intro s v h1; exact .leaf h1
    · intro a k vs ds h1 _ h2; exact .node (h1.mono s) h2
    · exact .nil
    · intro d v ds vs _ _ h1 h2; exact .cons h1 h2
theorem Fz.mono {d : D} {v : V} (s : Same F F') (h : Fz K T F d v) : Fz K T F' d v := (Fz.mono_both s).1 _ _ h
theorem FzL.mono {ds : List D} {vs : List V} (s : Same F F') (h : FzL K T F ds vs) : FzL K T F' ds vs := (Fz.mono_both s).2 _ _ h
theorem FzL.length {ds : List D} {vs : List V} (h : FzL K T F ds vs) : ds.length = vs.length := by
  induction ds generalizing vs with
  | nil => cases h; rfl
  | cons d r ih => cases h with | cons _ h2 => simp [ih h2]
theorem FzL.get {ds : List D} {vs : List V} (h : FzL K T F ds vs) {n : Nat} {d : D} (e : ds[n]? = some d) : ∃ v, vs[n]? = some v ∧ Fz K T F d v := by
  induction ds generalizing vs n with
  | nil => simp at e
  | cons d' r ih =>
    cases h with
    | cons h1 h2 =>
      cases n with
      | zero => simp at e; subst e; exact ⟨_, rfl, h1⟩
      | succ n => simpa using ih h2 (by simpa using e)

theorem Ow.frame_both (s : Same F F') : (∀ d v P, Ow K T F H d v P → (∀ a, P a → H' a = H a) → (∀ a, P a → F' a = none) → Ow K T F' H' d v P) ∧
    ∀ ds vs P, OwL K T F H ds vs P → (∀ a, P a → H' a = H a) → (∀ a, P a → F' a = none) → OwL K T F' H' ds vs P := by
  have m1 : ∀ {s : Sc} {v : V} {P : Ft}, ScV s v → Emp P → (∀ a, P a → H' a = H a) → (∀ a, P a → F' a = none) → Ow K T F' H' (.leaf s) v P := fun h1 h2 _ _ => .leaf h1 h2
  have m2 : ∀ {k : Kn} {ds : List D} {v : V} {P : Ft}, Fz K T F (.node false k ds) v → Emp P → (∀ a, P a → H' a = H a) → (∀ a, P a → F' a = none) → Ow K T F' H' (.node false k ds) v P := fun h1 h2 _ _ => .fz (h1.mono s) h2
  have m3 : ∀ {a dx : Addr} {k : Kn} {vs : List V} {ds : List D} {P P0 : Ft}, NodeW T H a dx k vs → OwL K T F H ds vs P0 → ¬ P0 a → ¬ P0 dx → F a = none → F dx = none → (∀ b, P b ↔ (b = a ∨ b = dx) ∨ P0 b) →
      ((∀ a, P0 a → H' a = H a) → (∀ a, P0 a → F' a = none) → OwL K T F' H' ds vs P0) → (∀ a, P a → H' a = H a) → (∀ a, P a → F' a = none) → Ow K T F' H' (.node true k ds) (.ref a) P := by
    intro a dx k vs ds P P0 h1 _ h3 h4 _ _ h5 ih hk hf
    have pa : P a := (h5 a).mpr (.inl (.inl rfl))
    have pd : P dx := (h5 dx).mpr (.inl (.inr rfl))
    exact .own (h1.same (hk _ pa) (hk _ pd)) (ih (fun b hb => hk b ((h5 b).mpr (.inr hb))) fun b hb => hf b ((h5 b).mpr (.inr hb))) h3 h4 (hf _ pa) (hf _ pd) h5
  have m4 : ∀ {P : Ft}, Emp P → (∀ a, P a → H' a = H a) → (∀ a, P a → F' a = none) → OwL K T F' H' [] [] P := fun h _ _ => .nil h
  have m5 : ∀ {d : D} {v : V} {ds : List D} {vs : List V} {P P1 P2 : Ft}, Ow K T F H d v P1 → OwL K T F H ds vs P2 → Dj P1 P2 → Uni P P1 P2 →
      ((∀ a, P1 a → H' a = H a) → (∀ a, P1 a → F' a = none) → Ow K T F' H' d v P1) → ((∀ a, P2 a → H' a = H a) → (∀ a, P2 a → F' a = none) → OwL K T F' H' ds vs P2) →
      (∀ a, P a → H' a = H a) → (∀ a, P a → F' a = none) → OwL K T F' H' (d :: ds) (v :: vs) P := by
    intro d v ds vs P P1 P2 _ _ dj un i1 i2 hk hf
    exact .cons (i1 (fun b hb => hk b ((un b).mpr (.inl hb))) fun b hb => hf b ((un b).mpr (.inl hb))) (i2 (fun b hb => hk b ((un b).mpr (.inr hb))) fun b hb => hf b ((un b).mpr (.inr hb))) dj un
  constructor
  · intro d v P h
    exact Ow.rec (motive_1 := fun d v P _ => (∀ a, P a → H' a = H a) → (∀ a, P a → F' a = none) → Ow K T F' H' d v P) (motive_2 := fun ds vs P _ => (∀ a, P a → H' a = H a) → (∀ a, P a → F' a = none) → OwL K T F' H' ds vs P)
      m1 m2 m3 m4 m5 h
  · intro d v P h
    exact OwL.rec (motive_1 := fun d v P _ => (∀ a, P a → H' a = H a) → (∀ a, P a → F' a = none) → Ow K T F' H' d v P) (motive_2 := fun ds vs P _ => (∀ a, P a → H' a = H a) → (∀ a, P a → F' a = none) → OwL K T F' H' ds vs P)
      m1 m2 m3 m4 m5 h
theorem Ow.frame {d : D} {v : V} {P : Ft} (h : Ow K T F H d v P) (s : Same F F') (hk : ∀ a, P a → H' a = H a) (hf : ∀ a, P a → F' a = none) : Ow K T F' H' d v P := (Ow.frame_both s).1 _ _ _ h hk hf
theorem OwL.frame {ds : List D} {vs : List V} {P : Ft} (h : OwL K T F H ds vs P) (s : Same F F') (hk : ∀ a, P a → H' a = H a) (hf : ∀ a, P a → F' a = none) : OwL K T F' H' ds vs P := (Ow.frame_both s).2 _ _ _ h hk hf

theorem Ow.fz_emp {d : D} {v : V} {P : Ft} (h : Fz K T F d v) (e : Emp P) : Ow K T F H d v P := by
  cases h with
  | leaf h => exact .leaf h e
  | node h1 h2 => exact .fz (.node h1 h2) e
theorem Ow.emp_of_shr {d : D} {v : V} {P : Ft} (h : Ow K T F H d v P) (s : d.shr = true) : Fz K T F d v ∧ Emp P := by
  cases h with
  | leaf h e => exact ⟨.leaf h, e⟩
  | fz h e => exact ⟨h, e⟩
  | own => simp [D.shr] at s
/-- where the footprint stands -/
theorem Ow.at_both : (∀ d v P, Ow K T F H d v P → ∀ a, P a → F a = none ∧ ∃ o, H a = some o) ∧ ∀ ds vs P, OwL K T F H ds vs P → ∀ a, P a → F a = none ∧ ∃ o, H a = some o := by
  have m3 : ∀ {a dx : Addr} {k : Kn} {vs : List V} {ds : List D} {P P0 : Ft}, NodeW T H a dx k vs → OwL K T F H ds vs P0 → ¬ P0 a → ¬ P0 dx → F a = none → F dx = none → (∀ b, P b ↔ (b = a ∨ b = dx) ∨ P0 b) →
      (∀ a, P0 a → F a = none ∧ ∃ o, H a = some o) → ∀ a, P a → F a = none ∧ ∃ o, H a = some o := by
    intro a dx k vs ds P P0 h1 _ _ _ f1 f2 h5 ih b hb
    rcases (h5 b).mp hb with (rfl | rfl) | hb
    · exact ⟨f1, h1.here⟩
    · exact ⟨f2, h1.hereD⟩
    · exact ih b hb
  have m5 : ∀ {d : D} {v : V} {ds : List D} {vs : List V} {P P1 P2 : Ft}, Ow K T F H d v P1 → OwL K T F H ds vs P2 → Dj P1 P2 → Uni P P1 P2 →
      (∀ a, P1 a → F a = none ∧ ∃ o, H a = some o) → (∀ a, P2 a → F a = none ∧ ∃ o, H a = some o) → ∀ a, P a → F a = none ∧ ∃ o, H a = some o := by
    intro d v ds vs P P1 P2 _ _ _ un i1 i2 b hb
    rcases (un b).mp hb with hb | hb
    · exact i1 b hb
    · exact i2 b hb
  constructor
  · intro d v P h
    exact Ow.rec (motive_1 := fun d v P _ => ∀ a, P a → F a = none ∧ ∃ o, H a = some o) (motive_2 := fun ds vs P _ => ∀ a, P a → F a = none ∧ ∃ o, H a = some o)
      (fun _ e a p => (e a p).elim) (fun _ e a p => (e a p).elim) m3 (fun e a p => (e a p).elim) m5 h
  · intro d v P h
    exact OwL.rec (motive_1 := fun d v P _ => ∀ a, P a → F a = none ∧ ∃ o, H a = some o) (motive_2 := fun ds vs P _ => ∀ a, P a → F a = none ∧ ∃ o, H a = some o)
      (fun _ e a p => (e a p).elim) (fun _ e a p => (e a p).elim) m3 (fun e a p => (e a p).elim) m5 h
theorem Ow.at {d : D} {v : V} {P : Ft} (h : Ow K T F H d v P) {a : Addr} (p : P a) : F a = none ∧ ∃ o, H a = some o := Ow.at_both.1 _ _ _ h a p
theorem OwL.at {ds : List D} {vs : List V} {P : Ft} (h : OwL K T F H ds vs P) {a : Addr} (p : P a) : F a = none ∧ ∃ o, H a = some o := Ow.at_both.2 _ _ _ h a p
theorem OwL.length {ds : List D} {vs : List V} {P : Ft} (h : OwL K T F H ds vs P) : ds.length = vs.length := by
  induction ds generalizing vs P with
  | nil => cases h; rfl
  | cons d r ih => cases h with | cons _ h2 => simp [ih h2]

mutual
theorem frz_frz : ∀ d : D, d.frz.frz = d.frz
  | .leaf _ => rfl
  | .node o k ds => by simp only [D.frz]; rw [frzL_frzL ds]
theorem frzL_frzL : ∀ ds : List D, D.frzL (D.frzL ds) = D.frzL ds
  | [] => rfl
  | d :: ds => by simp only [D.frzL]; rw [frz_frz d, frzL_frzL ds]
end
/-- frozen data is its own freezing -/
theorem Fz.frz_both : (∀ d v, Fz K T F d v → d.frz = d) ∧ ∀ ds vs, FzL K T F ds vs → D.frzL ds = ds := by
  constructor
  · intro d v h
    exact Fz.rec (motive_1 := fun d v _ => d.frz = d) (motive_2 := fun ds vs _ => D.frzL ds = ds) (fun _ => rfl) (fun _ _ e => by simp only [D.frz]; rw [e]) rfl (fun _ _ e1 e2 => by simp only [D.frzL]; rw [e1, e2]) h
  · intro d v h
    exact FzL.rec (motive_1 := fun d v _ => d.frz = d) (motive_2 := fun ds vs _ => D.frzL ds = ds) (fun _ => rfl) (fun _ _ e => by simp only [D.frz]; rw [e]) rfl (fun _ _ e1 e2 => by simp only [D.frzL]; rw [e1, e2]) h
theorem Fz.frz {d : D} {v : V} (h : Fz K T F d v) : d.frz = d := Fz.frz_both.1 _ _ h

/-- freezing: every larger F that bears the footprint -/
theorem Ow.freeze_both (s : Same F F') : (∀ d v P, Ow K T F H d v P → (∀ a, P a → F' a = H a) → Fz K T F' d.frz v) ∧ ∀ ds vs P, OwL K T F H ds vs P → (∀ a, P a → F' a = H a) → FzL K T F' (D.frzL ds) vs := by
  have m2 : ∀ {k : Kn} {ds : List D} {v : V} {P : Ft}, Fz K T F (.node false k ds) v → Emp P → (∀ a, P a → F' a = H a) → Fz K T F' (D.frz (.node false k ds)) v := by
    intro k ds v P h _ _
    rw [h.frz]; exact h.mono s
  have m3 : ∀ {a dx : Addr} {k : Kn} {vs : List V} {ds : List D} {P P0 : Ft}, NodeW T H a dx k vs → OwL K T F H ds vs P0 → ¬ P0 a → ¬ P0 dx → F a = none → F dx = none → (∀ b, P b ↔ (b = a ∨ b = dx) ∨ P0 b) →
      ((∀ a, P0 a → F' a = H a) → FzL K T F' (D.frzL ds) vs) → (∀ a, P a → F' a = H a) → Fz K T F' (D.frz (.node true k ds)) (.ref a) := by
    intro a dx k vs ds P P0 h1 _ _ _ _ _ h5 ih hk
    exact .node (h1.same (hk _ ((h5 a).mpr (.inl (.inl rfl)))) (hk _ ((h5 dx).mpr (.inl (.inr rfl))))).toF (ih fun b hb => hk b ((h5 b).mpr (.inr hb)))
  have m5 : ∀ {d : D} {v : V} {ds : List D} {vs : List V} {P P1 P2 : Ft}, Ow K T F H d v P1 → OwL K T F H ds vs P2 → Dj P1 P2 → Uni P P1 P2 →
      ((∀ a, P1 a → F' a = H a) → Fz K T F' d.frz v) → ((∀ a, P2 a → F' a = H a) → FzL K T F' (D.frzL ds) vs) → (∀ a, P a → F' a = H a) → FzL K T F' (D.frzL (d :: ds)) (v :: vs) := by
    intro d v ds vs P P1 P2 _ _ _ un i1 i2 hk
    exact .cons (i1 fun b hb => hk b ((un b).mpr (.inl hb))) (i2 fun b hb => hk b ((un b).mpr (.inr hb)))
  constructor
  · intro d v P h
    exact Ow.rec (motive_1 := fun d v P _ => (∀ a, P a → F' a = H a) → Fz K T F' d.frz v) (motive_2 := fun ds vs P _ => (∀ a, P a → F' a = H a) → FzL K T F' (D.frzL ds) vs)
      (fun h _ _ => .leaf h) m2 m3 (fun _ _ => .nil) m5 h
  · intro d v P h
    exact OwL.rec (motive_1 := fun d v P _ => (∀ a, P a → F' a = H a) → Fz K T F' d.frz v) (motive_2 := fun ds vs P _ => (∀ a, P a → F' a = H a) → FzL K T F' (D.frzL ds) vs)
      (fun h _ _ => .leaf h) m2 m3 (fun _ _ => .nil) m5 h
theorem Ow.freeze {d : D} {v : V} {P : Ft} (h : Ow K T F H d v P) (s : Same F F') (hk : ∀ a, P a → F' a = H a) : Fz K T F' d.frz v := (Ow.freeze_both s).1 _ _ _ h hk
theorem OwL.freeze {ds : List D} {vs : List V} {P : Ft} (h : OwL K T F H ds vs P) (s : Same F F') (hk : ∀ a, P a → F' a = H a) : FzL K T F' (D.frzL ds) vs := (Ow.freeze_both s).2 _ _ _ h hk
/-- seen as a whole, at H -/
theorem Ow.seen {d : D} {v : V} {P : Ft} (h : Ow K T F H d v P) (s : Same F H) : Fz K T H d.frz v := h.freeze s fun _ _ => rfl
theorem OwL.seen {ds : List D} {vs : List V} {P : Ft} (h : OwL K T F H ds vs P) (s : Same F H) : FzL K T H (D.frzL ds) vs := h.freeze s fun _ _ => rfl

/-- one item of a row, and the rest's promise -/
theorem OwL.focus {ds : List D} {vs : List V} {P : Ft} (h : OwL K T F H ds vs P) {n : Nat} {d : D} (e : ds[n]? = some d) :
    ∃ v P1 P2, vs[n]? = some v ∧ Ow K T F H d v P1 ∧ Dj P1 P2 ∧ Uni P P1 P2 ∧
      ∀ (F' H' : Hp) (d' : D) (v' : V) (P1' P' : Ft), Same F F' → (∀ a, P2 a → H' a = H a) → (∀ a, P2 a → F' a = none) → Ow K T F' H' d' v' P1' → Dj P1' P2 → Uni P' P1' P2 → OwL K T F' H' (ds.set n d') (vs.set n v') P' := by
  induction ds generalizing vs n P with
  | nil => simp at e
  | cons d0 r ih =>
    cases h with
    | @cons _ v0 _ vs0 _ Q1 Q2 h1 h2 dj un =>
      cases n with
      | zero =>
        simp at e; subst e
        refine ⟨v0, Q1, Q2, rfl, h1, dj, un, ?_⟩
        intro F' H' d' v' P1' P' s hk hf o dj' un'
        exact .cons o (h2.frame s hk hf) dj' un'
      | succ n =>
        obtain ⟨v, P1, P2, ev, o, dj1, un1, wand⟩ := ih h2 (by simpa using e)
        refine ⟨v, P1, fun a => Q1 a ∨ P2 a, by simpa using ev, o, fun a p q => ?_, fun a => ?_, ?_⟩
        · rcases q with q | q
          · exact dj a q ((un1 a).mpr (.inl p))
          · exact dj1 a p q
        · constructor
          · intro p
            rcases (un a).mp p with p | p
            · exact .inr (.inl p)
            · rcases (un1 a).mp p with p | p
              · exact .inl p
              · exact .inr (.inr p)
          · rintro (p | p | p)
            · exact (un a).mpr (.inr ((un1 a).mpr (.inl p)))
            · exact (un a).mpr (.inl p)
            · exact (un a).mpr (.inr ((un1 a).mpr (.inr p)))
        · intro F' H' d' v' P1' P' s hk hf o' dj' un'
          have w := wand F' H' d' v' P1' (fun a => P1' a ∨ P2 a) s (fun a p => hk a (.inr p)) (fun a p => hf a (.inr p)) o' (fun a p q => dj' a p (.inr q)) (fun _ => Iff.rfl)
          refine .cons (h1.frame s (fun a p => hk a (.inl p)) fun a p => hf a (.inl p)) w (fun a p q => ?_) fun a => ?_
          · rcases q with q | q
            · exact dj' a q (.inl p)
            · exact dj a p ((un1 a).mpr (.inr q))
          · rw [un' a]
            constructor
            · rintro (p | p | p)
              · exact .inr (.inl p)
              · exact .inl p
              · exact .inr (.inr p)
            · rintro (p | p | p)
              · exact .inr (.inl p)
              · exact .inl p
              · exact .inr (.inr p)
end
end VL

/-! VL2: paths into data; the state of a body. -/
namespace VL
open PySem PySem.Spec L2

/-- down a path of owned nodes -/
def D.getO : D → List Nat → Option D
  | d, [] => some d
  | .node o _ ds, n :: ns => if o = true then (match ds[n]? with | some d => D.getO d ns | none => none) else none
  | .leaf _, _ :: _ => none
def D.putO : D → List Nat → D → D
  | _, [], d' => d'
  | .node o k ds, n :: ns, d' => .node o k (match ds[n]? with | some d => ds.set n (D.putO d ns d') | none => ds)
  | .leaf s, _ :: _, _ => .leaf s
/-- the same down the heap -/
def vkid (H : Hp) : V → Nat → Option V
  | .ref a, n => match H a with
    | some (.lst vs) => vs[n]?
    | some (.tup vs) => vs[n]?
    | some (.dK kvs) => (kvs[n]?).map (·.2)
    | some (.dT kvs) => (kvs[n]?).map (·.2)
    | some (.ins _ _ fs) => (fs[n]?).map (·.2)
    | _ => none
  | _, _ => none
def vget (H : Hp) : V → List Nat → Option V
  | v, [] => some v
  | v, n :: ns => match vkid H v n with | some u => vget H u ns | none => none

theorem zip_snd {α β : Type} : ∀ (ks : List α) (vs : List β) (n : Nat), ks.length = vs.length → ((ks.zip vs)[n]?).map (·.2) = vs[n]?
  | [], [], n, _ => by simp
  | [], _ :: _, _, h => by simp at h
  | _ :: _, [], _, h => by simp at h
  | k :: ks, v :: vs, 0, _ => by simp
  | k :: ks, v :: vs, n + 1, h => by
    have := zip_snd ks vs n (by simpa using h)
    simpa using this
theorem zip_fst {α β : Type} : ∀ (ks : List α) (vs : List β), ks.length = vs.length → (ks.zip vs).map (·.1) = ks
  | [], [], _ => rfl
  | [], _ :: _, h => by simp at h
  | _ :: _, [], h => by simp at h
  | k :: ks, v :: vs, h => by simp [zip_fst ks vs (by simpa using h)]

section
variable {K : PySem.W.Frag} {T : String → Option Addr} {F F' H H' : Hp}
theorem NodeW.kid {a dx : Addr} {k : Kn} {vs : List V} (h : NodeW T H a dx k vs) (n : Nat) : vkid H (.ref a) n = vs[n]? := by
  obtain ⟨h1, C, h2, h3⟩ := h
  simp only [vkid]
  rw [h2]
  cases k with
  | lst => rfl
  | tup => rfl
  | dic ks => exact zip_snd _ _ _ h1
  | dit ks => exact zip_snd _ _ _ h1
  | ins c fs => exact zip_snd _ _ _ (by rw [List.length_map]; exact h1)

/-- a part of owned data, and the rest's promise -/
theorem Ow.focus : ∀ {ns : List Nat} {d : D} {v : V} {P : Ft}, Ow K T F H d v P → ∀ {d1 : D}, d.getO ns = some d1 →
    ∃ v1 P1 P2, vget H v ns = some v1 ∧ Ow K T F H d1 v1 P1 ∧ Dj P1 P2 ∧ Uni P P1 P2 ∧
      ∀ (F' H' : Hp) (d1' : D) (P1' P' : Ft), Same F F' → (∀ a, P2 a → H' a = H a) → (∀ a, P2 a → F' a = none) → Ow K T F' H' d1' v1 P1' → Dj P1' P2 → Uni P' P1' P2 → Ow K T F' H' (d.putO ns d1') v P'
  | [], d, v, P, h, d1, e => by
    have e' : d = d1 := by cases d <;> exact Option.some.inj e
    subst e'
    refine ⟨v, P, fun _ => False, rfl, h, fun _ _ z => z, fun a => ⟨.inl, fun z => z.elim id False.elim⟩, ?_⟩
    intro F' H' d1' P1' P' s _ _ o _ un
    have ep : P' = P1' := funext fun a => propext ⟨fun p => ((un a).mp p).elim id False.elim, fun p => (un a).mpr (.inl p)⟩
    subst ep
    cases d <;> exact o
  | n :: ns, d, v, P, h, d1, e => by
    cases h with
    | leaf _ _ => simp [D.getO] at e
    | fz _ _ => simp [D.getO] at e
    | @own a dx k vs ds _ P0 hn hl n1 n2 f1 f2 hp =>
      simp only [D.getO, if_true] at e
      cases q : ds[n]? with
      | none => rw [q] at e; cases e
      | some d0 =>
        rw [q] at e
        obtain ⟨v0, Q1, Q2, ev, o, dj, un, wand⟩ := hl.focus q
        obtain ⟨v1, P1, P2, eg, o1, dj1, un1, wand1⟩ := Ow.focus (ns := ns) o e
        refine ⟨v1, P1, fun b => (b = a ∨ b = dx) ∨ P2 b ∨ Q2 b, ?_, o1, ?_, ?_, ?_⟩
        · simp only [vget]; rw [hn.kid, ev]; exact eg
        · intro b p z
          have p0 : P0 b := (un b).mpr (.inl ((un1 b).mpr (.inl p)))
          rcases z with (rfl | rfl) | z | z
          · exact n1 p0
          · exact n2 p0
          · exact dj1 b p z
          · exact dj b ((un1 b).mpr (.inl p)) z
        · intro b
          rw [hp b, un b, un1 b]
          constructor
          · rintro (z | (z | z) | z)
            · exact .inr (.inl z)
            · exact .inl z
            · exact .inr (.inr (.inl z))
            · exact .inr (.inr (.inr z))
          · rintro (z | z | z | z)
            · exact .inr (.inl (.inl z))
            · exact .inl z
            · exact .inr (.inl (.inr z))
            · exact .inr (.inr z)
        · intro F' H' d1' P1' P' s hk hf o' dj' un'
          have w1 := wand1 F' H' d1' P1' (fun b => P1' b ∨ P2 b) s (fun b z => hk b (.inr (.inl z))) (fun b z => hf b (.inr (.inl z))) o' (fun b p z => dj' b p (.inr (.inl z))) (fun _ => Iff.rfl)
          have w := wand F' H' (d0.putO ns d1') v0 (fun b => P1' b ∨ P2 b) (fun b => (P1' b ∨ P2 b) ∨ Q2 b) s (fun b z => hk b (.inr (.inr z))) (fun b z => hf b (.inr (.inr z))) w1
            (fun b p z => by
              rcases p with p | p
              · exact dj' b p (.inr (.inr z))
              · exact dj b ((un1 b).mpr (.inr p)) z) (fun _ => Iff.rfl)
          have ev' : vs.set n v0 = vs := List.ext_getElem? fun j => by
            by_cases hj : n = j
            · subst hj
              rw [List.getElem?_set_self (List.getElem?_eq_some_iff.mp ev).1, ev]
            · rw [List.getElem?_set_ne hj]
          rw [ev'] at w
          simp only [D.putO]; rw [q]
          refine .own (hn.same (hk _ (.inl (.inl rfl))) (hk _ (.inl (.inr rfl)))) w ?_ ?_ (hf _ (.inl (.inl rfl))) (hf _ (.inl (.inr rfl))) ?_
          · rintro ((z | z) | z)
            · exact dj' _ z (.inl (.inl rfl))
            · exact n1 ((un _).mpr (.inl ((un1 _).mpr (.inr z))))
            · exact n1 ((un _).mpr (.inr z))
          · rintro ((z | z) | z)
            · exact dj' _ z (.inl (.inr rfl))
            · exact n2 ((un _).mpr (.inl ((un1 _).mpr (.inr z))))
            · exact n2 ((un _).mpr (.inr z))
          · intro b
            rw [un' b]
            constructor
            · rintro (z | z | z | z)
              · exact .inr (.inl (.inl z))
              · exact .inl z
              · exact .inr (.inl (.inr z))
              · exact .inr (.inr z)
            · rintro (z | (z | z) | z)
              · exact .inr (.inl z)
              · exact .inl z
              · exact .inr (.inr (.inl z))
              · exact .inr (.inr (.inr z))

/-- the slots -/
inductive OwS (K : PySem.W.Frag) (T : String → Option Addr) (F H : Hp) : List (Option D) → St → Ft → Prop
  | nil {P : Ft} : Emp P → OwS K T F H [] [] P
  | none {x : Option V} {r : List (Option D)} {σ : St} {P : Ft} : OwS K T F H r σ P → OwS K T F H (none :: r) (x :: σ) P
  | some {d : D} {v : V} {r : List (Option D)} {σ : St} {P P1 P2 : Ft} : Ow K T F H d v P1 → OwS K T F H r σ P2 → Dj P1 P2 → Uni P P1 P2 → OwS K T F H (some d :: r) (some v :: σ) P
theorem OwS.frame {r : List (Option D)} {σ : St} {P : Ft} (h : OwS K T F H r σ P) (s : Same F F') (hk : ∀ a, P a → H' a = H a) (hf : ∀ a, P a → F' a = Option.none) : OwS K T F' H' r σ P := by
  induction h with
  | nil e => exact .nil e
  | none _ ih => exact .none (ih hk hf)
  | some o _ dj un ih => exact .some (o.frame s (fun a p => hk a ((un a).mpr (.inl p))) fun a p => hf a ((un a).mpr (.inl p))) (ih (fun a p => hk a ((un a).mpr (.inr p))) fun a p => hf a ((un a).mpr (.inr p))) dj un
theorem OwS.at {r : List (Option D)} {σ : St} {P : Ft} (h : OwS K T F H r σ P) {a : Addr} (p : P a) : F a = Option.none ∧ ∃ o, H a = Option.some o := by
  induction h with
  | nil e => exact (e a p).elim
  | none _ ih => exact ih p
  | some o _ dj un ih =>
    rcases (un a).mp p with p | p
    · exact o.at p
    · exact ih p
theorem OwS.length {r : List (Option D)} {σ : St} {P : Ft} (h : OwS K T F H r σ P) : σ.length = r.length := by
  induction h with
  | nil _ => rfl
  | none _ ih => simp [ih]
  | some _ _ _ _ ih => simp [ih]
/-- one slot, and the rest's promise; the slot may be given up -/
theorem OwS.focus {r : List (Option D)} {σ : St} {P : Ft} (h : OwS K T F H r σ P) {n : Nat} {d : D} (e : r[n]? = Option.some (Option.some d)) :
    ∃ v P1 P2, σ[n]? = Option.some (Option.some v) ∧ Ow K T F H d v P1 ∧ Dj P1 P2 ∧ Uni P P1 P2 ∧ OwS K T F H (r.set n Option.none) σ P2 ∧
      ∀ (F' H' : Hp) (d' : D) (v' : V) (P1' P' : Ft), Same F F' → (∀ a, P2 a → H' a = H a) → (∀ a, P2 a → F' a = Option.none) → Ow K T F' H' d' v' P1' → Dj P1' P2 → Uni P' P1' P2 → OwS K T F' H' (r.set n (Option.some d')) (σ.set n (Option.some v')) P' := by
  induction h generalizing n with
  | nil => simp at e
  | @none x r σ P hr ih =>
    cases n with
    | zero => simp at e
    | succ n =>
      obtain ⟨v, P1, P2, ev, o, dj, un, give, wand⟩ := ih (by simpa using e)
      exact ⟨v, P1, P2, by simpa using ev, o, dj, un, .none give, fun F' H' d' v' P1' P' s hk hf o' dj' un' => .none (wand F' H' d' v' P1' P' s hk hf o' dj' un')⟩
  | @some d0 v0 r σ P Q1 Q2 h1 h2 dj un ih =>
    cases n with
    | zero =>
      simp at e; subst e
      exact ⟨v0, Q1, Q2, rfl, h1, dj, un, .none h2, fun F' H' d' v' P1' P' s hk hf o dj' un' => .some o (h2.frame s hk hf) dj' un'⟩
    | succ n =>
      obtain ⟨v, P1, P2, ev, o, dj1, un1, give, wand⟩ := ih (by simpa using e)
      refine ⟨v, P1, fun a => Q1 a ∨ P2 a, by simpa using ev, o, fun a p q => ?_, fun a => ?_, ?_, ?_⟩
      · rcases q with q | q
        · exact dj a q ((un1 a).mpr (.inl p))
        · exact dj1 a p q
      · rw [un a, un1 a]
        constructor
        · rintro (p | p | p)
          · exact .inr (.inl p)
          · exact .inl p
          · exact .inr (.inr p)
        · rintro (p | p | p)
          · exact .inr (.inl p)
          · exact .inl p
          · exact .inr (.inr p)
      · exact .some h1 give (fun a p q => dj a p ((un1 a).mpr (.inr q))) fun _ => Iff.rfl
      · intro F' H' d' v' P1' P' s hk hf o' dj' un'
        have w := wand F' H' d' v' P1' (fun a => P1' a ∨ P2 a) s (fun a p => hk a (.inr p)) (fun a p => hf a (.inr p)) o' (fun a p q => dj' a p (.inr q)) (fun _ => Iff.rfl)
        refine .some (h1.frame s (fun a p => hk a (.inl p)) fun a p => hf a (.inl p)) w (fun a p q => ?_) fun a => ?_
        · rcases q with q | q
          · exact dj' a q (.inl p)
          · exact dj a p ((un1 a).mpr (.inr q))
        · rw [un' a]
          constructor
          · rintro (p | p | p)
            · exact .inr (.inl p)
            · exact .inl p
            · exact .inr (.inr p)
          · rintro (p | p | p)
            · exact .inr (.inl p)
            · exact .inl p
            · exact .inr (.inr p)
/-- a slot takes new data (whatever it held) -/
theorem OwS.put {r : List (Option D)} {σ : St} {P : Ft} (h : OwS K T F H r σ P) {n : Nat} (hn : n < r.length) {d : D} {v : V} {P1 : Ft} (o : Ow K T F H d v P1) (dj : Dj P1 P) :
    ∃ P', OwS K T F H (r.set n (Option.some d)) (σ.set n (Option.some v)) P' ∧ ∀ a, P' a → P1 a ∨ P a := by
  induction h generalizing n with
  | nil => simp at hn
  | @none x r σ P hr ih =>
    cases n with
    | zero => exact ⟨fun a => P1 a ∨ P a, .some o hr dj fun _ => Iff.rfl, fun a p => p⟩
    | succ n =>
      obtain ⟨P', h1, h2⟩ := ih (by simpa using hn) dj
      exact ⟨P', .none h1, h2⟩
  | @some d0 v0 r σ P Q1 Q2 h1 h2 dj0 un ih =>
    cases n with
    | zero =>
      exact ⟨fun a => P1 a ∨ Q2 a, .some o h2 (fun a p q => dj a p ((un a).mpr (.inr q))) fun _ => Iff.rfl, fun a p => p.imp id fun q => (un a).mpr (.inr q)⟩
    | succ n =>
      obtain ⟨P', g1, g2⟩ := ih (by simpa using hn) fun a p q => dj a p ((un a).mpr (.inr q))
      refine ⟨fun a => Q1 a ∨ P' a, .some h1 g1 (fun a p q => ?_) fun _ => Iff.rfl, fun a p => ?_⟩
      · rcases g2 a q with q | q
        · exact dj a q ((un a).mpr (.inl p))
        · exact dj0 a p q
      · rcases p with p | p
        · exact .inr ((un a).mpr (.inl p))
        · exact (g2 a p).imp id fun q => (un a).mpr (.inr q)
end
end VL

/-! VL3: the state, what is read of it, what a program does to it. -/
namespace VL
open PySem PySem.Spec L2

abbrev VS := List (Option D)
inductive R (α : Type) where
  | ok (a : α) (r : VS)
  | ex (c : String) (r : VS)
  | no
abbrev M (α : Type) := VS → R α
def M.ret {α : Type} (a : α) : M α := fun r => .ok a r
def M.bind {α β : Type} (m : M α) (k : α → M β) : M β := fun r => match m r with
  | .ok a r' => k a r'
  | .ex c r' => .ex c r'
  | .no => .no
def M.opt {α : Type} (o : Option α) : M α := fun r => match o with
  | some a => .ok a r
  | none => .no
def M.no {α : Type} : M α := fun _ => .no

/-- what is fixed through a body: the heap, the footprint and the frozen part at its entry; the slots that no store may turn -/
structure Gm where
  H0 : Hp
  P0 : Ft
  F0 : Hp
  pin : Nat → Option V

structure Rl (K : PySem.W.Frag) (T : String → Option Addr) (G : Gm) (F : Hp) (r : VS) (t : List D) (σ : St) (tv : List V) (H : Hp) : Prop where
  st : ∃ Ps Pt, OwS K T F H r σ Ps ∧ OwL K T F H t tv Pt ∧ Dj Ps Pt ∧ ∀ a, Ps a ∨ Pt a → G.P0 a ∨ G.H0 a = none
  sub : Same F H
  keep : ∀ a o, G.H0 a = some o → ¬ G.P0 a → H a = some o
  frz : ∀ a o, F a = some o → G.F0 a = some o ∨ G.P0 a ∨ G.H0 a = none
  base : Same G.F0 F
  pin : ∀ i v, G.pin i = some v → σ[i]? = some (some v)

section
variable (K : PySem.W.Frag) (T : String → Option Addr)
mutual
/-- data that is looked at: nobody's -/
inductive Lk (F H : Hp) : D → V → Prop
  | leaf {s : Sc} {v : V} : ScV s v → Lk F H (.leaf s) v
  | fz {k : Kn} {ds : List D} {v : V} : Fz K T F (.node false k ds) v → Lk F H (.node false k ds) v
  | own {a : Addr} {k : Kn} {vs : List V} {ds : List D} : NodeF K T H a k vs → LkL F H ds vs → Lk F H (.node true k ds) (.ref a)
inductive LkL (F H : Hp) : List D → List V → Prop
  | nil : LkL F H [] []
  | cons {d : D} {v : V} {ds : List D} {vs : List V} : Lk F H d v → LkL F H ds vs → LkL F H (d :: ds) (v :: vs)
end
end

section
variable {K : PySem.W.Frag} {T : String → Option Addr} {F F' H H' : Hp}
theorem Lk.mono_both (s : Same F F') (s2 : Same H H') : (∀ d v, Lk K T F H d v → Lk K T F' H' d v) ∧ ∀ ds vs, LkL K T F H ds vs → LkL K T F' H' ds vs := by
  constructor
  · intro d v h
    exact Lk.rec (motive_1 := fun d v _ => Lk K T F' H' d v) (motive_2 := fun ds vs _ => LkL K T F' H' ds vs) (fun h => .leaf h) (fun h => .fz (h.mono s)) (fun h _ i => .own (h.mono s2) i) .nil (fun _ _ a b => .cons a b) h
  · intro d v h
    exact LkL.rec (motive_1 := fun d v _ => Lk K T F' H' d v) (motive_2 := fun ds vs _ => LkL K T F' H' ds vs) (fun h => .leaf h) (fun h => .fz (h.mono s)) (fun h _ i => .own (h.mono s2) i) .nil (fun _ _ a b => .cons a b) h
theorem Lk.mono {d : D} {v : V} (s : Same F F') (s2 : Same H H') (h : Lk K T F H d v) : Lk K T F' H' d v := (Lk.mono_both s s2).1 _ _ h
theorem LkL.mono {ds : List D} {vs : List V} (s : Same F F') (s2 : Same H H') (h : LkL K T F H ds vs) : LkL K T F' H' ds vs := (Lk.mono_both s s2).2 _ _ h
theorem Fz.lk {d : D} {v : V} (h : Fz K T F d v) : Lk K T F H d v := by
  cases h with
  | leaf h => exact .leaf h
  | node h1 h2 => exact .fz (.node h1 h2)
theorem FzL.lk {ds : List D} {vs : List V} (h : FzL K T F ds vs) : LkL K T F H ds vs := by
  induction ds generalizing vs with
  | nil => cases h; exact .nil
  | cons d r ih => cases h with | cons h1 h2 => exact .cons h1.lk (ih h2)
theorem Ow.lk_both : (∀ d v P, Ow K T F H d v P → Lk K T F H d v) ∧ ∀ ds vs P, OwL K T F H ds vs P → LkL K T F H ds vs := by
  constructor
  · intro d v P h
    exact Ow.rec (motive_1 := fun d v P _ => Lk K T F H d v) (motive_2 := fun ds vs P _ => LkL K T F H ds vs) (fun h _ => .leaf h) (fun h _ => .fz h) (fun h _ _ _ _ _ _ i => .own h.toF i) (fun _ => .nil) (fun _ _ _ _ a b => .cons a b) h
  · intro d v P h
    exact OwL.rec (motive_1 := fun d v P _ => Lk K T F H d v) (motive_2 := fun ds vs P _ => LkL K T F H ds vs) (fun h _ => .leaf h) (fun h _ => .fz h) (fun h _ _ _ _ _ _ i => .own h.toF i) (fun _ => .nil) (fun _ _ _ _ a b => .cons a b) h
theorem Ow.lk {d : D} {v : V} {P : Ft} (h : Ow K T F H d v P) : Lk K T F H d v := Ow.lk_both.1 _ _ _ h
theorem OwL.lk {ds : List D} {vs : List V} {P : Ft} (h : OwL K T F H ds vs P) : LkL K T F H ds vs := Ow.lk_both.2 _ _ _ h
theorem Lk.seen_both (s : Same F H) : (∀ d v, Lk K T F H d v → Fz K T H d.frz v) ∧ ∀ ds vs, LkL K T F H ds vs → FzL K T H (D.frzL ds) vs := by
  have m2 : ∀ {k : Kn} {ds : List D} {v : V}, Fz K T F (.node false k ds) v → Fz K T H (D.frz (.node false k ds)) v := fun h => by rw [h.frz]; exact h.mono s
  constructor
  · intro d v h
    exact Lk.rec (motive_1 := fun d v _ => Fz K T H d.frz v) (motive_2 := fun ds vs _ => FzL K T H (D.frzL ds) vs) (fun h => .leaf h) m2 (fun h _ i => .node h i) .nil (fun _ _ a b => .cons a b) h
  · intro d v h
    exact LkL.rec (motive_1 := fun d v _ => Fz K T H d.frz v) (motive_2 := fun ds vs _ => FzL K T H (D.frzL ds) vs) (fun h => .leaf h) m2 (fun h _ i => .node h i) .nil (fun _ _ a b => .cons a b) h
theorem Lk.seen {d : D} {v : V} (h : Lk K T F H d v) (s : Same F H) : Fz K T H d.frz v := (Lk.seen_both s).1 _ _ h
theorem LkL.seen {ds : List D} {vs : List V} (h : LkL K T F H ds vs) (s : Same F H) : FzL K T H (D.frzL ds) vs := (Lk.seen_both s).2 _ _ h
theorem LkL.length {ds : List D} {vs : List V} (h : LkL K T F H ds vs) : ds.length = vs.length := by
  induction ds generalizing vs with
  | nil => cases h; rfl
  | cons d r ih => cases h with | cons _ h2 => simp [ih h2]
theorem LkL.get {ds : List D} {vs : List V} (h : LkL K T F H ds vs) {n : Nat} {d : D} (e : ds[n]? = some d) : ∃ v, vs[n]? = some v ∧ Lk K T F H d v := by
  induction ds generalizing vs n with
  | nil => simp at e
  | cons d' r ih =>
    cases h with
    | cons h1 h2 =>
      cases n with
      | zero => simp at e; subst e; exact ⟨_, rfl, h1⟩
      | succ n => simpa using ih h2 (by simpa using e)
/-- what may be shared is frozen -/
theorem Lk.shr {d : D} {v : V} (h : Lk K T F H d v) (s : d.shr = true) : Fz K T F d v := by
  cases h with
  | leaf h => exact .leaf h
  | fz h => exact h
  | own => simp [D.shr] at s
theorem LkL.shr {ds : List D} {vs : List V} (h : LkL K T F H ds vs) (s : ds.all D.shr = true) : FzL K T F ds vs := by
  induction ds generalizing vs with
  | nil => cases h; exact .nil
  | cons d r ih =>
    simp at s
    cases h with
    | cons h1 h2 => exact .cons (h1.shr s.1) (ih h2 (by simpa using s.2))
/-- a node that is looked at -/
theorem Lk.node {o : Bool} {k : Kn} {ds : List D} {v : V} (h : Lk K T F H (.node o k ds) v) (s : Same F H) : ∃ a vs, v = .ref a ∧ NodeF K T H a k vs ∧ LkL K T F H ds vs := by
  cases h with
  | fz h =>
    cases h with
    | node h1 h2 => exact ⟨_, _, rfl, h1.mono s, h2.lk⟩
  | own h1 h2 => exact ⟨_, _, rfl, h1, h2⟩

/-! ### the state -/
section
variable {G : Gm} {r : VS} {t : List D} {σ : St} {tv : List V}
theorem Rl.drop {d : D} {v : V} (h : Rl K T G F r (d :: t) σ (v :: tv) H) : Rl K T G F r t σ tv H := by
  obtain ⟨⟨Ps, Pt, h1, h2, dj, hp⟩, b1, b2, b3, b4, b5⟩ := h
  cases h2 with
  | cons o h2 dj2 un => exact ⟨⟨Ps, _, h1, h2, fun a p q => dj a p ((un a).mpr (.inr q)), fun a p => hp a (p.imp id fun q => (un a).mpr (.inr q))⟩, b1, b2, b3, b4, b5⟩
theorem Rl.top {d : D} {v : V} (h : Rl K T G F r (d :: t) σ (v :: tv) H) : Lk K T F H d v := by
  obtain ⟨⟨Ps, Pt, h1, h2, dj, hp⟩, _⟩ := h
  cases h2 with
  | cons o _ _ _ => exact o.lk
theorem Rl.push {d : D} {v : V} (h : Rl K T G F r t σ tv H) (f : Fz K T F d v) : Rl K T G F r (d :: t) σ (v :: tv) H := by
  obtain ⟨⟨Ps, Pt, h1, h2, dj, hp⟩, b1, b2, b3, b4, b5⟩ := h
  exact ⟨⟨Ps, Pt, h1, .cons (P1 := fun _ => False) (.fz_emp f fun _ z => z) h2 (fun _ z => z.elim) fun a => ⟨.inr, fun z => z.elim False.elim id⟩, dj, hp⟩, b1, b2, b3, b4, b5⟩
/-- new untracked matter -/
theorem Rl.grow (h : Rl K T G F r t σ tv H) (s : Same H H') : Rl K T G F r t σ tv H' := by
  obtain ⟨⟨Ps, Pt, h1, h2, dj, hp⟩, b1, b2, b3, b4, b5⟩ := h
  refine ⟨⟨Ps, Pt, h1.frame (Same.refl _) (fun a p => ?_) fun a p => (h1.at p).1, h2.frame (Same.refl _) (fun a p => ?_) fun a p => (h2.at p).1, dj, hp⟩, b1.trans s, fun a o e n => s _ _ (b2 a o e n), b3, b4, b5⟩
  · obtain ⟨_, o, e⟩ := h1.at p
    rw [e]; exact s _ _ e
  · obtain ⟨_, o, e⟩ := h2.at p
    rw [e]; exact s _ _ e
noncomputable def ovr (A : Ft) (H F : Hp) : Hp := fun a => if (Classical.propDecidable (A a)).decide then H a else F a
theorem ovr_in {A : Ft} {H F : Hp} {a : Addr} (h : A a) : ovr A H F a = H a := by simp [ovr, h]
theorem ovr_out {A : Ft} {H F : Hp} {a : Addr} (h : ¬ A a) : ovr A H F a = F a := by simp [ovr, h]
theorem same_upd {p : Addr} {o : HO} (h : H p = none) : Same H (upd H p o) := fun b u e => by
  rw [upd_ne (ne_of_none e h)]; exact e
theorem OwL.cut : ∀ {ds : List D} {vs : List V} {P : Ft} {t : List D} {tv : List V}, ds.length = vs.length → OwL K T F H (ds ++ t) (vs ++ tv) P → ∃ A B, OwL K T F H ds vs A ∧ OwL K T F H t tv B ∧ Dj A B ∧ Uni P A B
  | [], [], P, t, tv, _, h => ⟨fun _ => False, P, .nil fun _ z => z, h, fun _ z => z.elim, fun a => ⟨.inr, fun z => z.elim False.elim id⟩⟩
  | [], _ :: _, _, _, _, hl, _ => by simp at hl
  | _ :: _, [], _, _, _, hl, _ => by simp at hl
  | d :: ds, v :: vs, P, t, tv, hl, h => by
    cases h with
    | @cons _ _ _ _ _ Q1 Q2 o h dj un =>
      obtain ⟨A, B, g1, g2, g3, g4⟩ := OwL.cut (by simpa using hl) h
      refine ⟨fun a => Q1 a ∨ A a, B, .cons o g1 (fun a p q => dj a p ((g4 a).mpr (.inl q))) fun _ => Iff.rfl, g2, fun a p q => ?_, fun a => ?_⟩
      · rcases p with p | p
        · exact dj a p ((g4 a).mpr (.inr q))
        · exact g3 a p q
      · rw [un a, g4 a]
        constructor
        · rintro (z | z | z)
          · exact .inl (.inl z)
          · exact .inl (.inr z)
          · exact .inr z
        · rintro ((z | z) | z)
          · exact .inl z
          · exact .inr (.inl z)
          · exact .inr (.inr z)
theorem OwL.join : ∀ {ds : List D} {vs : List V} {A B P : Ft} {t : List D} {tv : List V}, OwL K T F H ds vs A → OwL K T F H t tv B → Dj A B → Uni P A B → OwL K T F H (ds ++ t) (vs ++ tv) P
  | [], _, A, B, P, t, tv, h1, h2, dj, un => by
    cases h1 with
    | nil e =>
      have ep : P = B := funext fun a => propext ⟨fun p => ((un a).mp p).elim (fun z => (e a z).elim) id, fun p => (un a).mpr (.inr p)⟩
      subst ep; exact h2
  | d :: ds, _, A, B, P, t, tv, h1, h2, dj, un => by
    cases h1 with
    | @cons _ _ _ _ _ Q1 Q2 o h dj1 un1 =>
      refine .cons o (OwL.join (P := fun a => Q2 a ∨ B a) h h2 (fun a p q => dj a ((un1 a).mpr (.inr p)) q) fun _ => Iff.rfl) (fun a p q => ?_) fun a => ?_
      · rcases q with q | q
        · exact dj1 a p q
        · exact dj a ((un1 a).mpr (.inl p)) q
      · rw [un a, un1 a]
        constructor
        · rintro ((z | z) | z)
          · exact .inl z
          · exact .inr (.inl z)
          · exact .inr (.inr z)
        · rintro (z | z | z)
          · exact .inl (.inl z)
          · exact .inl (.inr z)
          · exact .inr z
theorem OwL.one {d : D} {v : V} {P : Ft} (h : Ow K T F H d v P) : OwL K T F H [d] [v] P := .cons (P2 := fun _ => False) h (.nil fun _ z => z) (fun _ _ z => z) fun a => ⟨.inl, fun z => z.elim id False.elim⟩
theorem OwL.lift {ds : List D} {vs : List V} {P : Ft} {t : List D} {tv : List V} {d : D} {v : V} (hl : ds.length = vs.length) (h : OwL K T F H (ds ++ d :: t) (vs ++ v :: tv) P) : OwL K T F H (d :: ds ++ t) (v :: vs ++ tv) P := by
  obtain ⟨A, B, g1, g2, dj, un⟩ := OwL.cut hl h
  cases g2 with
  | @cons _ _ _ _ _ Q1 Q2 o g2 dj1 un1 =>
    refine .cons o (OwL.join (P := fun a => A a ∨ Q2 a) g1 g2 (fun a p q => dj a p ((un1 a).mpr (.inr q))) fun _ => Iff.rfl) (fun a p q => ?_) fun a => ?_
    · rcases q with q | q
      · exact dj a q ((un1 a).mpr (.inl p))
      · exact dj1 a p q
    · rw [un a, un1 a]
      constructor
      · rintro (z | z | z)
        · exact .inr (.inl z)
        · exact .inl z
        · exact .inr (.inr z)
      · rintro (z | z | z)
        · exact .inr (.inl z)
        · exact .inl z
        · exact .inr (.inr z)
theorem Rl.lift {ds : List D} {vs : List V} {d : D} {v : V} (hl : ds.length = vs.length) (h : Rl K T G F r (ds ++ d :: t) σ (vs ++ v :: tv) H) : Rl K T G F r (d :: ds ++ t) σ (v :: vs ++ tv) H := by
  obtain ⟨⟨Ps, Pt, h1, h2, dj, hp⟩, b1, b2, b3, b4, b5⟩ := h
  exact ⟨⟨Ps, Pt, h1, OwL.lift hl h2, dj, hp⟩, b1, b2, b3, b4, b5⟩
theorem Rl.dropN {ds : List D} {vs : List V} (hl : ds.length = vs.length) (h : Rl K T G F r (ds ++ t) σ (vs ++ tv) H) : Rl K T G F r t σ tv H := by
  obtain ⟨⟨Ps, Pt, h1, h2, dj, hp⟩, b1, b2, b3, b4, b5⟩ := h
  obtain ⟨A, B, g1, g2, g3, g4⟩ := OwL.cut hl h2
  exact ⟨⟨Ps, B, h1, g2, fun a p q => dj a p ((g4 a).mpr (.inr q)), fun a p => hp a (p.imp id fun q => (g4 a).mpr (.inr q))⟩, b1, b2, b3, b4, b5⟩
theorem Rl.topN {ds : List D} {vs : List V} (hl : ds.length = vs.length) (h : Rl K T G F r (ds ++ t) σ (vs ++ tv) H) : LkL K T F H ds vs := by
  obtain ⟨⟨Ps, Pt, h1, h2, dj, hp⟩, _⟩ := h
  obtain ⟨A, B, g1, g2, g3, g4⟩ := OwL.cut hl h2
  exact g1.lk
theorem Rl.fresh (h : Rl K T G F r t σ tv H) {p : Addr} (hp : H p = none) : F p = none ∧ (G.P0 p ∨ G.H0 p = none) := by
  constructor
  · cases e : F p with
    | none => rfl
    | some o => rw [h.sub _ _ e] at hp; cases hp
  · by_cases q : G.P0 p
    · exact .inl q
    · refine .inr ?_
      cases e : G.H0 p with
      | none => rfl
      | some o => rw [h.keep _ _ e q] at hp; cases hp
/-- the temporaries on top become a new node -/
theorem Rl.alloc {k : Kn} (hk : ∀ c fs, k ≠ .ins c fs) {ds : List D} {vs : List V} (hl : ds.length = vs.length) (hf : k.fits vs.length) (h : Rl K T G F r (ds ++ t) σ (vs ++ tv) H) {p : Addr} (hp : H p = none) :
    Rl K T G F r (.node true k ds :: t) σ (.ref p :: tv) (upd H p (objOf 0 p k vs)) := by
  obtain ⟨fp, gp⟩ := h.fresh hp
  obtain ⟨⟨Ps, Pt, h1, h2, dj, hq⟩, b1, b2, b3, b4, b5⟩ := h
  obtain ⟨A, B, g1, g2, g3, g4⟩ := OwL.cut hl h2
  have s := same_upd (o := objOf 0 p k vs) hp
  have st : ∀ a, (∃ o, H a = some o) → upd H p (objOf 0 p k vs) a = H a := fun a ⟨o, e⟩ => upd_ne (ne_of_none e hp)
  have np : ∀ {Q : Ft}, (∀ a, Q a → F a = none ∧ ∃ o, H a = some o) → ¬ Q p := fun hQ z => by
    obtain ⟨_, o, e⟩ := hQ p z
    rw [hp] at e; cases e
  have nA := np fun a z => g1.at z
  have nB := np fun a z => g2.at z
  have nS := np fun a z => h1.at z
  refine ⟨⟨Ps, fun a => ((a = p ∨ a = p) ∨ A a) ∨ B a, h1.frame (Same.refl _) (fun a z => st a (h1.at z).2) fun a z => (h1.at z).1, ?_, ?_, ?_⟩, b1.trans s, fun a o e n => s _ _ (b2 a o e n), b3, b4, b5⟩
  · refine .cons (P1 := fun a => (a = p ∨ a = p) ∨ A a) (P2 := B) (.own (dx := p) ⟨hf, 0, upd_same, ?_⟩ (g1.frame (Same.refl _) (fun a z => st a (g1.at z).2) fun a z => (g1.at z).1) nA nA fp fp fun _ => Iff.rfl)
      (g2.frame (Same.refl _) (fun a z => st a (g2.at z).2) fun a z => (g2.at z).1) (fun a z q => ?_) fun _ => Iff.rfl
    · cases k with
      | ins c fs => exact (hk c fs rfl).elim
      | _ => rfl
    · rcases z with (rfl | rfl) | z
      · exact nB q
      · exact nB q
      · exact g3 a z q
  · intro a z q
    rcases q with ((rfl | rfl) | q) | q
    · exact nS z
    · exact nS z
    · exact dj a z ((g4 a).mpr (.inl q))
    · exact dj a z ((g4 a).mpr (.inr q))
  · intro a z
    rcases z with z | ((rfl | rfl) | z) | z
    · exact hq a (.inl z)
    · exact gp
    · exact gp
    · exact hq a (.inr ((g4 a).mpr (.inl z)))
    · exact hq a (.inr ((g4 a).mpr (.inr z)))
/-- the top temporary is frozen -/
theorem Rl.freeze {d : D} {v : V} (h : Rl K T G F r (d :: t) σ (v :: tv) H) : ∃ F', Same F F' ∧ Rl K T G F' r (d.frz :: t) σ (v :: tv) H ∧ Fz K T F' d.frz v := by
  obtain ⟨⟨Ps, Pt, h1, h2, dj, hq⟩, b1, b2, b3, b4, b5⟩ := h
  cases h2 with
  | @cons _ _ _ _ _ A B o g2 dj2 un =>
    have sF : Same F (ovr A H F) := fun a u e => by
      by_cases z : A a
      · rw [(o.at z).1] at e; cases e
      · rw [ovr_out z]; exact e
    have at1 : ∀ a, A a → (ovr A H F) a = H a := fun a z => ovr_in z
    have at0 : ∀ a, ¬ A a → (ovr A H F) a = F a := fun a z => ovr_out z
    have fz := o.freeze sF at1
    refine ⟨_, sF, ⟨⟨Ps, B, h1.frame sF (fun _ _ => rfl) (fun a z => ?_), ?_, fun a p q => dj a p ((un a).mpr (.inr q)), fun a p => hq a (p.imp id fun q => (un a).mpr (.inr q))⟩, ?_, b2, ?_, b4.trans sF, b5⟩, fz⟩
    · rw [at0 a fun w => dj a z ((un a).mpr (.inl w))]; exact (h1.at z).1
    · refine .cons (P1 := fun _ => False) (.fz_emp fz fun _ z => z) (g2.frame sF (fun _ _ => rfl) fun a z => ?_) (fun _ z => z.elim) fun a => ⟨.inr, fun z => z.elim False.elim id⟩
      rw [at0 a fun w => dj2 a w z]; exact (g2.at z).1
    · intro a u e
      by_cases z : A a
      · rw [at1 a z] at e; exact e
      · rw [at0 a z] at e; exact b1 _ _ e
    · intro a u e
      by_cases z : A a
      · exact .inr (hq a (.inr ((un a).mpr (.inl z))))
      · rw [at0 a z] at e; exact b3 _ _ e
/-- a slot's data goes into a temporary -/
theorem Rl.take (h : Rl K T G F r t σ tv H) {i : Nat} {d : D} (e : r[i]? = some (some d)) : ∃ v, σ[i]? = some (some v) ∧ Rl K T G F (r.set i none) (d :: t) σ (v :: tv) H := by
  obtain ⟨⟨Ps, Pt, h1, h2, dj, hq⟩, b1, b2, b3, b4, b5⟩ := h
  obtain ⟨v, P1, P2, ev, o, dj1, un1, give, _⟩ := h1.focus e
  exact ⟨v, ev, ⟨⟨P2, fun a => P1 a ∨ Pt a, give, .cons o h2 (fun a p q => dj a ((un1 a).mpr (.inl p)) q) fun _ => Iff.rfl, fun a p q => by
    rcases q with q | q
    · exact dj1 a q p
    · exact dj a ((un1 a).mpr (.inr p)) q, fun a p => by
    rcases p with p | p | p
    · exact hq a (.inl ((un1 a).mpr (.inr p)))
    · exact hq a (.inl ((un1 a).mpr (.inl p)))
    · exact hq a (.inr p)⟩, b1, b2, b3, b4, b5⟩⟩
/-- the top temporary goes into a slot -/
theorem Rl.put {d : D} {v : V} (h : Rl K T G F r (d :: t) σ (v :: tv) H) {i : Nat} (hi : i < r.length) (hp : ∀ w, G.pin i = some w → v = w) : Rl K T G F (r.set i (some d)) t (σ.set i (some v)) tv H := by
  obtain ⟨⟨Ps, Pt, h1, h2, dj, hq⟩, b1, b2, b3, b4, b5⟩ := h
  cases h2 with
  | @cons _ _ _ _ _ A B o g2 dj2 un =>
    obtain ⟨P', g1, g3⟩ := h1.put hi o fun a p q => dj a q ((un a).mpr (.inl p))
    refine ⟨⟨P', B, g1, g2, fun a p q => ?_, fun a p => ?_⟩, b1, b2, b3, b4, fun j w e => ?_⟩
    · rcases g3 a p with z | z
      · exact dj2 a z q
      · exact dj a z ((un a).mpr (.inr q))
    · rcases p with p | p
      · rcases g3 a p with z | z
        · exact hq a (.inr ((un a).mpr (.inl z)))
        · exact hq a (.inl z)
      · exact hq a (.inr ((un a).mpr (.inr p)))
    · by_cases hj : i = j
      · subst hj
        rw [List.getElem?_set_self (by rw [h1.length]; exact hi), hp w e]
      · rw [List.getElem?_set_ne hj]; exact b5 j w e
theorem Rl.slots (h : Rl K T G F r t σ tv H) : σ.length = r.length := h.st.elim fun _ x => x.elim fun _ y => y.1.length
theorem set_same {α : Type} {l : List α} {i : Nat} {a : α} (h : l[i]? = some a) : l.set i a = l := List.ext_getElem? fun j => by
  by_cases hj : i = j
  · subst hj; rw [List.getElem?_set_self (List.getElem?_eq_some_iff.mp h).1, h]
  · rw [List.getElem?_set_ne hj]
/-- a slot is looked at -/
theorem Rl.look (h : Rl K T G F r t σ tv H) {i : Nat} {d : D} (e : r[i]? = some (some d)) : ∃ v, σ[i]? = some (some v) ∧ Lk K T F H d v := by
  obtain ⟨v, ev, h'⟩ := h.take e
  exact ⟨v, ev, h'.top⟩
/-- a slot is frozen in its place -/
theorem Rl.freezeAt (h : Rl K T G F r t σ tv H) {i : Nat} {d : D} (e : r[i]? = some (some d)) : ∃ v F', σ[i]? = some (some v) ∧ Same F F' ∧ Rl K T G F' (r.set i (some d.frz)) t σ tv H ∧ Fz K T F' d.frz v := by
  obtain ⟨v, ev, h1⟩ := h.take e
  obtain ⟨F', s, h2, fz⟩ := h1.freeze
  have hi : i < (r.set i none).length := by rw [List.length_set]; exact (List.getElem?_eq_some_iff.mp e).1
  have h3 := h2.put hi fun w ew => by
    have := h.pin i w ew
    rw [ev] at this; exact Option.some.inj (Option.some.inj this)
  rw [List.set_set, set_same ev] at h3
  exact ⟨v, F', ev, s, h3, fz⟩
/-- a slot's data is given up -/
theorem Rl.forget (h : Rl K T G F r t σ tv H) {i : Nat} {d : D} (e : r[i]? = some (some d)) : Rl K T G F (r.set i none) t σ tv H := by
  obtain ⟨v, ev, h1⟩ := h.take e
  exact h1.drop
end
end
end VL

/-! VL4: the judgements; names, constants, operators, tests. -/
namespace VL
open PySem PySem.Spec L2

def R.sat {α : Type} (x : R α) (ok : α → VS → Prop) (ex : String → VS → Prop) : Prop := match x with
  | .ok a r => ok a r
  | .ex c r => ex c r
  | .no => False
theorem R.sat.mono {α : Type} {x : R α} {ok ok' : α → VS → Prop} {ex ex' : String → VS → Prop} (h : x.sat ok ex) (h1 : ∀ a r, ok a r → ok' a r) (h2 : ∀ c r, ex c r → ex' c r) : x.sat ok' ex' := by
  cases x with
  | ok a r => exact h1 a r h
  | ex c r => exact h2 c r h
  | no => exact h
theorem sat_bind {α β : Type} {m : M α} {k : α → M β} {r : VS} {ok : β → VS → Prop} {ex : String → VS → Prop} (h : (M.bind m k r).sat ok ex) : (m r).sat (fun a r' => (k a r').sat ok ex) ex := by
  unfold M.bind at h
  cases e : m r with
  | ok a r' => rw [e] at h; exact h
  | ex c r' => rw [e] at h; exact h
  | no => rw [e] at h; exact h
theorem sat_opt {α : Type} {o : Option α} {r : VS} {ok : α → VS → Prop} {ex : String → VS → Prop} (h : (M.opt o r).sat ok ex) : ∃ a, o = some a ∧ ok a r := by
  cases o with
  | none => exact h.elim
  | some a => exact ⟨a, rfl, h⟩
def D.bl? : D → Option Bool
  | .leaf (.bl b) => some b
  | _ => none
theorem D.bl?_eq {d : D} {b : Bool} (h : d.bl? = some b) : d = .bl b := by
  cases d with
  | leaf s => cases s <;> simp_all [D.bl?]
  | node o k ds => simp [D.bl?] at h

section
variable (K : PySem.W.Frag) (T : String → Option Addr) (G : Gm) (W : WX) (p : Bool)
/-- what is wanted where an exception leaves -/
def exP (σ : L2.St) (t : List D) (tv : List V) (F : Hp) : String → VS → Prop := fun c r' => ∀ C F' H', T c = some C → Same F F' → Rl K T G F' r' t σ tv H' → W (.ref C) none σ H'
/-- an expression: its value is a temporary -/
def tE (m : M D) : TE := fun σ H Q => ∃ F r t tv, Rl K T G F r t σ tv H ∧
  (m r).sat (fun d r' => ∀ v F' H', Same F F' → (p = true → Same H H') → Rl K T G F' r' (d :: t) σ (v :: tv) H' → Q v H') (exP K T G W σ t tv F)
/-- an expression whose value is looked at -/
def tB (m : M D) : TE := fun σ H Q => ∃ F r t tv, Rl K T G F r t σ tv H ∧
  (m r).sat (fun d r' => ∀ v F' H', Same F F' → (p = true → Same H H') → Rl K T G F' r' t σ tv H' → Lk K T F' H' d v → Q v H') (exP K T G W σ t tv F)
/-- a test -/
def tT (m : M Bool) : TT := fun σ H Q => ∃ F r t tv, Rl K T G F r t σ tv H ∧
  (m r).sat (fun b r' => ∀ F' H', Same F F' → (p = true → Same H H') → Rl K T G F' r' t σ tv H' → Q b H') (exP K T G W σ t tv F)
/-- arguments: temporaries -/
def tA (m : M (List D)) : TA := fun σ H Q => ∃ F r t tv, Rl K T G F r t σ tv H ∧
  (m r).sat (fun ds r' => ∀ vs F' H', Same F F' → (p = true → Same H H') → ds.length = vs.length → Rl K T G F' r' (ds ++ t) σ (vs ++ tv) H' → Q vs H') (exP K T G W σ t tv F)
/-- arguments that are looked at -/
def tAB (m : M (List D)) : TA := fun σ H Q => ∃ F r t tv, Rl K T G F r t σ tv H ∧
  (m r).sat (fun ds r' => ∀ vs F' H', Same F F' → (p = true → Same H H') → Rl K T G F' r' t σ tv H' → LkL K T F' H' ds vs → Q vs H') (exP K T G W σ t tv F)
end
/-- behind a statement -/
inductive Fl where
  | nx | rt (d : D) | bk | ct
section
variable (K : PySem.W.Frag) (T : String → Option Addr) (G : Gm) (W : WX)
def exS (t : List D) (tv : List V) (F : Hp) : String → VS → Prop := fun c r' => ∀ C σ' F' H', T c = some C → Same F F' → Rl K T G F' r' t σ' tv H' → W (.ref C) none σ' H'
def flS (B : Ends) (t : List D) (tv : List V) (F : Hp) : Fl → VS → Prop := fun f r' => ∀ σ' F' H', Same F F' → match f with
  | .nx => Rl K T G F' r' t σ' tv H' → B.nx σ' H'
  | .bk => Rl K T G F' r' t σ' tv H' → B.bk σ' H'
  | .ct => Rl K T G F' r' t σ' tv H' → B.ct σ' H'
  | .rt d => ∀ v, Rl K T G F' r' (d :: t) σ' (v :: tv) H' → B.rt v H'
def tS (m : M Fl) : TS := fun B σ H => ∃ F r t tv, Rl K T G F r t σ tv H ∧ (m r).sat (flS K T G B t tv F) (exS K T G W t tv F)
end

/-- the slots whose values stand; of some of them the value is told -/
structure Io where
  l : List Nat
  k : List (Nat × V)
def Pins (io : Io) (G : Gm) : Prop := (∀ j v, G.pin j = some v → j ∈ io.l) ∧ ∀ q ∈ io.k, G.pin q.1 = some q.2
section
variable (T : String → Option Addr) (io : Io) (X : Cx) (W : WX)
def QE (p : Bool) (e : Expr) (m : M D) : Prop := ∀ G, Pins io G → PE X e (tE X.K T G W p m)
def QB (p : Bool) (e : Expr) (m : M D) : Prop := ∀ G, Pins io G → PE X e (tB X.K T G W p m)
def QT (p : Bool) (e : Expr) (m : M Bool) : Prop := ∀ G, Pins io G → PT X e (tT X.K T G W p m)
def QW (p : Bool) (e : Expr) (m : M Bool) : Prop := ∀ G, Pins io G → PW X e (tT X.K T G W p m)
def QA (p : Bool) (es : List Expr) (m : M (List D)) : Prop := ∀ G, Pins io G → PA X es (tA X.K T G W p m)
def QAB (p : Bool) (es : List Expr) (m : M (List D)) : Prop := ∀ G, Pins io G → PA X es (tAB X.K T G W p m)
def QS (st : Stmt) (m : M Fl) : Prop := ∀ G, Pins io G → PS X st (tS X.K T G W m)
def QSs (st : List Stmt) (m : M Fl) : Prop := ∀ G, Pins io G → PSs X st (tS X.K T G W m)
end

theorem PE.imp {X : Cx} {e : Expr} {t t' : TE} (h : PE X e t) (i : ∀ σ H Q, t' σ H Q → t σ H Q) : PE X e t' := ⟨fun pins s σ H Q I q => h.run pins s σ H Q I (i σ H Q q)⟩
theorem PT.imp {X : Cx} {e : Expr} {t t' : TT} (h : PT X e t) (i : ∀ σ H Q, t' σ H Q → t σ H Q) : PT X e t' := ⟨fun pins s σ H Q I q => h.run pins s σ H Q I (i σ H Q q)⟩
theorem PW.imp {X : Cx} {e : Expr} {t t' : TT} (h : PW X e t) (i : ∀ σ H Q, t' σ H Q → t σ H Q) : PW X e t' := ⟨fun wh pins s σ H Q I q => h.run wh pins s σ H Q I (i σ H Q q)⟩
theorem PA.imp {X : Cx} {e : List Expr} {t t' : TA} (h : PA X e t) (i : ∀ σ H Q, t' σ H Q → t σ H Q) : PA X e t' := ⟨fun pos pins s σ H Q I q => h.run pos pins s σ H Q I (i σ H Q q)⟩
theorem PS.imp {X : Cx} {e : Stmt} {t t' : TS} (h : PS X e t) (i : ∀ B σ H, t' B σ H → t B σ H) : PS X e t' := ⟨fun pins s σ H B I q => h.run pins s σ H B I (i B σ H q)⟩
theorem PSs.imp {X : Cx} {e : List Stmt} {t t' : TS} (h : PSs X e t) (i : ∀ B σ H, t' B σ H → t B σ H) : PSs X e t' := ⟨fun pins s σ H B I q => h.run pins s σ H B I (i B σ H q)⟩
theorem exP.trans {K : PySem.W.Frag} {T : String → Option Addr} {G : Gm} {W : WX} {σ : L2.St} {t : List D} {tv : List V} {F F' : Hp} {c : String} {r : VS} (s : Same F F') (h : exP K T G W σ t tv F c r) : exP K T G W σ t tv F' c r :=
  fun C F2 H2 z s2 q => h C F2 H2 z (s.trans s2) q
theorem exS.trans {K : PySem.W.Frag} {T : String → Option Addr} {G : Gm} {W : WX} {t : List D} {tv : List V} {F F' : Hp} {c : String} {r : VS} (s : Same F F') (h : exS K T G W t tv F c r) : exS K T G W t tv F' c r :=
  fun C σ2 F2 H2 z s2 q => h C σ2 F2 H2 z (s.trans s2) q
theorem exS.toP {K : PySem.W.Frag} {T : String → Option Addr} {G : Gm} {W : WX} {σ : L2.St} {t : List D} {tv : List V} {F : Hp} {c : String} {r : VS} (h : exS K T G W t tv F c r) : exP K T G W σ t tv F c r :=
  fun C F2 H2 z s2 q => h C σ F2 H2 z s2 q
theorem flS.trans {K : PySem.W.Frag} {T : String → Option Addr} {G : Gm} {B : Ends} {t : List D} {tv : List V} {F F' : Hp} {f : Fl} {r : VS} (s : Same F F') (h : flS K T G B t tv F f r) : flS K T G B t tv F' f r := by
  intro σ2 F2 H2 s2
  have := h σ2 F2 H2 (s.trans s2)
  cases f <;> exact this

section
variable {T : String → Option Addr} {io : Io} {X : Cx} {W : WX} {p p1 p2 : Bool} {pos : Pos}

/-! ### constants, names -/
theorem qe_const {e : Expr} {s : Sc} {v : V} (h : PE X e (tC v)) (r : ScV s v) : QE T io X W true e (M.ret (.leaf s)) := fun G _ => PE.imp h fun σ H Q ⟨F, r0, t, tv, h1, h2⟩ => h2 v F H (Same.refl _) (fun _ => Same.refl _) (h1.push (.leaf r))
theorem qe_int {i : Int} {j} : QE T io X W true (.Constant (.int i) j pos) (M.ret (.int i)) := qe_const pe_int rfl
theorem qe_bl {b : Bool} {j} : QE T io X W true (.Constant (.bool b) j pos) (M.ret (.bl b)) := qe_const pe_bl rfl
theorem qe_str {x : Str} {j} : QE T io X W true (.Constant (.str x) j pos) (M.ret (.str x)) := qe_const pe_str rfl
theorem qe_non {j} : QE T io X W true (.Constant .none j pos) (M.ret .non) := qe_const pe_non rfl

/-- a slot's data -/
def slot? (i : Nat) (r : VS) : Option D := match r[i]? with
  | some (some d) => some d
  | _ => none
theorem slot?_eq {i : Nat} {r : VS} {d : D} (h : slot? i r = some d) : r[i]? = some (some d) := by
  unfold slot? at h
  split at h
  · rename_i e; cases h; exact e
  · cases h
/-- a name, frozen in its slot -/
def mVar (i : Nat) : M D := fun r => match slot? i r with
  | some d => if d.shr then .ok d r else .ok d.frz (r.set i (some d.frz))
  | none => .no
/-- a name, given up -/
def mMove (i : Nat) : M D := fun r => match slot? i r with
  | some d => .ok d (r.set i none)
  | none => .no
/-- a name, looked at -/
def mPeek (i : Nat) : M D := fun r => match slot? i r with
  | some d => .ok d r
  | none => .no
theorem qe_var {i : Nat} {x : Str} (hN : X.N[i]? = some x) (hv : Vis X.env.scope x) (hd : (x == ("__debug__" : Str)) = false := by decide) (hcd : (x == ("__classdict__" : Str)) = false := by decide) : QE T io X W true (.Name x pos) (mVar i) := fun G _ => PE.imp (pe_var hN hv hd hcd) fun σ H Q ⟨F, r0, t, tv, h1, h2⟩ => by
  unfold mVar at h2
  cases e : slot? i r0 with
  | none => simp only [e] at h2; exact h2.elim
  | some d =>
    simp only [e] at h2
    cases hs : d.shr with
    | true =>
      simp only [hs, if_true] at h2
      obtain ⟨v, ev, lk⟩ := h1.look (slot?_eq e)
      exact ⟨v, ev, h2 v F H (Same.refl _) (fun _ => Same.refl _) (h1.push (lk.shr hs))⟩
    | false =>
      simp only [hs, Bool.false_eq_true, if_false] at h2
      obtain ⟨v, F', ev, s, h3, fz⟩ := h1.freezeAt (slot?_eq e)
      exact ⟨v, ev, h2 v F' H s (fun _ => Same.refl _) (h3.push fz)⟩
theorem qe_move {i : Nat} {x : Str} (hN : X.N[i]? = some x) (hv : Vis X.env.scope x) (hd : (x == ("__debug__" : Str)) = false := by decide) (hcd : (x == ("__classdict__" : Str)) = false := by decide) : QE T io X W true (.Name x pos) (mMove i) := fun G _ => PE.imp (pe_var hN hv hd hcd) fun σ H Q ⟨F, r0, t, tv, h1, h2⟩ => by
  unfold mMove at h2
  cases e : slot? i r0 with
  | none => simp only [e] at h2; exact h2.elim
  | some d =>
    simp only [e] at h2
    obtain ⟨v, ev, h3⟩ := h1.take (slot?_eq e)
    exact ⟨v, ev, h2 v F H (Same.refl _) (fun _ => Same.refl _) h3⟩
theorem qb_peek {i : Nat} {x : Str} (hN : X.N[i]? = some x) (hv : Vis X.env.scope x) (hd : (x == ("__debug__" : Str)) = false := by decide) (hcd : (x == ("__classdict__" : Str)) = false := by decide) : QB T io X W true (.Name x pos) (mPeek i) := fun G _ => PE.imp (pe_var hN hv hd hcd) fun σ H Q ⟨F, r0, t, tv, h1, h2⟩ => by
  unfold mPeek at h2
  cases e : slot? i r0 with
  | none => simp only [e] at h2; exact h2.elim
  | some d =>
    simp only [e] at h2
    obtain ⟨v, ev, lk⟩ := h1.look (slot?_eq e)
    exact ⟨v, ev, h2 v F H (Same.refl _) (fun _ => Same.refl _) h1 lk⟩
theorem qb_of {e : Expr} {m : M D} (h : QE T io X W p e m) : QB T io X W p e m := fun G g => PE.imp (h G g) fun σ H Q ⟨F, r, t, tv, h1, h2⟩ =>
  ⟨F, r, t, tv, h1, h2.mono (fun d r' q v F' H' s1 s2 h3 => q v F' H' s1 s2 h3.drop h3.top) fun _ _ q => q⟩

/-! ### what an operator gives -/
/-- frozen data that stands, or a new node of frozen items -/
inductive Res (K : PySem.W.Frag) (T : String → Option Addr) (F H : Hp) : D → V → Hp → Prop
  | sh {d : D} {v : V} : Fz K T F d v → Res K T F H d v H
  | new {k : Kn} {ds : List D} {vs : List V} {a : Addr} : (∀ c fs, k ≠ .ins c fs) → k.fits vs.length → FzL K T F ds vs → H a = none → Res K T F H (.node true k ds) (.ref a) (upd H a (objOf 0 a k vs))
  | newF {k : Kn} {ds : List D} {vs : List V} {a : Addr} : (∀ c fs, k ≠ .ins c fs) → k.fits vs.length → FzL K T F ds vs → H a = none → Res K T F H (.node false k ds) (.ref a) (upd H a (objOf 0 a k vs))
theorem Rl.pushL {K : PySem.W.Frag} {G : Gm} {F H : Hp} {r : VS} {t : List D} {σ : L2.St} {tv : List V} (h : Rl K T G F r t σ tv H) : ∀ {ds : List D} {vs : List V}, FzL K T F ds vs → Rl K T G F r (ds ++ t) σ (vs ++ tv) H
  | [], _, f => by cases f; exact h
  | d :: ds, _, f => by cases f with | cons f1 f2 => exact (Rl.pushL h f2).push f1
theorem Rl.res {K : PySem.W.Frag} {G : Gm} {F H H' : Hp} {r : VS} {t : List D} {σ : L2.St} {tv : List V} {d : D} {v : V} (h : Rl K T G F r t σ tv H) (q : Res K T F H d v H') : ∃ F', Same F F' ∧ Rl K T G F' r (d :: t) σ (v :: tv) H' ∧ Same H H' := by
  cases q with
  | sh f => exact ⟨F, Same.refl _, h.push f, Same.refl _⟩
  | new k1 k2 f n => exact ⟨F, Same.refl _, Rl.alloc k1 f.length k2 (h.pushL f) n, same_upd n⟩
  | @newF k ds vs a k1 k2 f n =>
    obtain ⟨F', s, h2, fz⟩ := (Rl.alloc k1 f.length k2 (h.pushL f) n).freeze
    have ed : D.frz (.node true k ds) = .node false k ds := by
      simp only [D.frz]; rw [Fz.frz_both.2 _ _ f]
    rw [ed] at h2
    exact ⟨F', s, h2, same_upd n⟩
/-- a rule for looked-at operands, by its answer -/
def Un1 (K : PySem.W.Frag) (T : String → Option Addr) (f : D → Option D) (r : V → Hp → VK → Prop) : Prop := ∀ (F H : Hp) (d : D) (x : V) (d' : D) (Q : VK), f d = some d' → Same F H → Lk K T F H d x → (∀ v H', Res K T F H d' v H' → Q v H') → r x H Q
def Op2 (K : PySem.W.Frag) (T : String → Option Addr) (f : D → D → Option D) (r : R2) : Prop := ∀ (F H : Hp) (d e : D) (x y : V) (d' : D) (Q : VK), f d e = some d' → Same F H → Lk K T F H d x → Lk K T F H e y → (∀ v H', Res K T F H d' v H' → Q v H') → r x y H Q
def OpN (K : PySem.W.Frag) (T : String → Option Addr) (f : List D → Option D) (r : List V → Hp → VK → Prop) : Prop := ∀ (F H : Hp) (ds : List D) (xs : List V) (d' : D) (Q : VK), f ds = some d' → Same F H → LkL K T F H ds xs → (∀ v H', Res K T F H d' v H' → Q v H') → r xs H Q
def mOp1 (f : D → Option D) (a : M D) : M D := M.bind a fun x => M.opt (f x)
def mOp2 (f : D → D → Option D) (a b : M D) : M D := M.bind a fun x => M.bind b fun y => M.opt (f x y)
def mOpN (f : List D → Option D) (a : M (List D)) : M D := M.bind a fun x => M.opt (f x)

section
variable {K : PySem.W.Frag} {G : Gm} {σ : L2.St} {H : Hp} {Q : VK}
theorem imp1 {f : D → Option D} {r : V → Hp → VK → Prop} {a : M D} (hf : Un1 K T f r) (h : tE K T G W p (mOp1 f a) σ H Q) : tUn r (tB K T G W p a) σ H Q := by
  obtain ⟨F, r0, t, tv, h1, h2⟩ := h
  refine ⟨F, r0, t, tv, h1, (sat_bind h2).mono (fun d r' q v F' H' s1 s2 h3 lk => ?_) fun _ _ q => q⟩
  obtain ⟨d', e2, q⟩ := sat_opt q
  refine hf F' H' d v d' Q e2 h3.sub lk fun u H2 w => ?_
  obtain ⟨F2, s3, h4, s4⟩ := h3.res w
  exact q u F2 H2 (s1.trans s3) (fun z => (s2 z).trans s4) h4
theorem imp2 {f : D → D → Option D} {r : R2} {a b : M D} (hf : Op2 K T f r) (h : tE K T G W p (mOp2 f a b) σ H Q) : tOp r (tB K T G W p a) (tB K T G W true b) σ H Q := by
  obtain ⟨F, r0, t, tv, h1, h2⟩ := h
  refine ⟨F, r0, t, tv, h1, (sat_bind h2).mono (fun d r1 q v F1 H1 s1 s2 h3 lk => ?_) fun _ _ q => q⟩
  refine ⟨F1, r1, t, tv, h3, (sat_bind q).mono (fun d2 r2 q v2 F2 H2 s3 s4 h4 lk2 => ?_) fun _ _ q => q.trans s1⟩
  obtain ⟨d', e2, q⟩ := sat_opt q
  refine hf F2 H2 d d2 v v2 d' Q e2 h4.sub (lk.mono s3 (s4 rfl)) lk2 fun u H5 w => ?_
  obtain ⟨F3, s6, h5, s5⟩ := h4.res w
  exact q u F3 H5 ((s1.trans s3).trans s6) (fun z => ((s2 z).trans (s4 rfl)).trans s5) h5
theorem impN {f : List D → Option D} {r : List V → Hp → VK → Prop} {a : M (List D)} (hf : OpN K T f r) (h : tE K T G W p (mOpN f a) σ H Q) : tCB r (tAB K T G W p a) σ H Q := by
  obtain ⟨F, r0, t, tv, h1, h2⟩ := h
  refine ⟨F, r0, t, tv, h1, (sat_bind h2).mono (fun d r' q v F' H' s1 s2 h3 lk => ?_) fun _ _ q => q⟩
  obtain ⟨d', e2, q⟩ := sat_opt q
  refine hf F' H' d v d' Q e2 h3.sub lk fun u H2 w => ?_
  obtain ⟨F2, s3, h4, s4⟩ := h3.res w
  exact q u F2 H2 (s1.trans s3) (fun z => (s2 z).trans s4) h4
end

/-! ### operators -/
theorem qe_op2 {op : Operator} {r : R2} {f : D → D → Option D} {a b : Expr} {ma mb : M D} (ho : OpR X (binaryOp op) r) (hf : Op2 X.K T f r) (ha : QB T io X W p a ma) (hb : QB T io X W true b mb) : QE T io X W p (.BinOp a op b pos) (mOp2 f ma mb) :=
  fun G g => PE.imp (pe_op ho (ha G g) (hb G g)) fun _ _ _ h => imp2 hf h
theorem qe_un {op : UnaryOp} {r : V → Hp → VK → Prop} {f : D → Option D} {a : Expr} {ma : M D} (ho : UnR X (unaryOp op) r) (hf : Un1 X.K T f r) (ha : QB T io X W p a ma) : QE T io X W p (.UnaryOp op a pos) (mOp1 f ma) :=
  fun G g => PE.imp (pe_un ho (ha G g)) fun _ _ _ h => imp1 hf h
theorem qe_cmp {op : CmpOp} {r : R2} {f : D → D → Option D} {a b : Expr} {ma mb : M D} (ho : OpR X (compareOp op) r) (hf : Op2 X.K T f r) (ha : QB T io X W p a ma) (hb : QB T io X W true b mb) (hm : behindInMarks op b = false) : QE T io X W p (.Compare a [op] [b] pos) (mOp2 f ma mb) :=
  fun G g => PE.imp (pe_cmpR ho (ha G g) (hb G g) hm) fun _ _ _ h => imp2 hf h

/-! ### tests -/
def mTest (a : M D) : M Bool := M.bind a fun d => M.opt d.bl?
theorem impT {K : PySem.W.Frag} {G : Gm} {a : M D} {σ : L2.St} {H : Hp} {Q : Bool → Hp → Prop} (h : tT K T G W p (mTest a) σ H Q) : tB K T G W p a σ H fun x H1 => ∃ k, x = .bl k ∧ Q k H1 := by
  obtain ⟨F, r0, t, tv, h1, h2⟩ := h
  refine ⟨F, r0, t, tv, h1, (sat_bind h2).mono (fun d r' q v F' H' s1 s2 h3 lk => ?_) fun _ _ q => q⟩
  obtain ⟨b, e, q⟩ := sat_opt q
  rw [D.bl?_eq e] at lk
  cases lk with
  | leaf z => exact ⟨b, z, q F' H' s1 s2 h3⟩
theorem impTE {K : PySem.W.Frag} {G : Gm} {a : M D} {σ : L2.St} {H : Hp} {Q : Bool → Hp → Prop} (h : tT K T G W p (mTest a) σ H Q) : tE K T G W p a σ H fun x H1 => ∃ k, x = .bl k ∧ Q k H1 := by
  obtain ⟨F, r0, t, tv, h1, h2⟩ := impT h
  exact ⟨F, r0, t, tv, h1, h2.mono (fun d r' q v F' H' s1 s2 h3 => q v F' H' s1 s2 h3.drop h3.top) fun _ _ q => q⟩
theorem qt_of {e : Expr} {m : M D} (h : QB T io X W p e m) (he : ∀ whole, isTrue e X.env whole = (do let v ← whole; standAt e.pos; holding [v] (truthy v)) := by intro _; rfl) : QT T io X W p e (mTest m) :=
  fun G g => PT.imp (pt_val (h G g) he) fun _ _ _ h => impT h
theorem qt_cmp {op : CmpOp} {r : R2} {f : D → D → Option D} {a b : Expr} {ma mb : M D} (ho : OpR X (compareOp op) r) (hf : Op2 X.K T f r) (ha : QB T io X W p a ma) (hb : QB T io X W true b mb) (hm : behindInMarks op b = false) : QT T io X W p (.Compare a [op] [b] pos) (mTest (mOp2 f ma mb)) :=
  fun G g => PT.imp (pt_cmpR ho (ha G g) (hb G g) hm) fun σ H Q h => imp2 hf (impTE h)
def mNotT (a : M Bool) : M Bool := M.bind a fun b => M.ret (!b)
def mAndT (a b : M Bool) : M Bool := M.bind a fun x => if x = true then b else M.ret false
def mOrT (a b : M Bool) : M Bool := M.bind a fun x => if x = true then M.ret true else b
theorem andL {a b : Bool} (h : (a && b) = true) : a = true := by cases a <;> simp_all
theorem andR {a b : Bool} (h : (a && b) = true) : b = true := by cases a <;> simp_all
theorem qt_not {a : Expr} {ma : M Bool} (ha : QT T io X W p a ma) : QT T io X W p (.UnaryOp .Not a pos) (mNotT ma) := fun G g => PT.imp (pt_not (ha G g)) fun σ H Q ⟨F, r0, t, tv, h1, h2⟩ =>
  ⟨F, r0, t, tv, h1, (sat_bind h2).mono (fun d r' q F' H' s1 s2 h3 => q F' H' s1 s2 h3) fun _ _ q => q⟩
theorem qw_one_and {a : Expr} {ma : M Bool} (ha : QT T io X W p a ma) : QW T io X W p (.BoolOp .And [a] pos) ma := fun G g => pw_and1 (ha G g)
theorem qw_one_or {a : Expr} {ma : M Bool} (ha : QT T io X W p a ma) : QW T io X W p (.BoolOp .Or [a] pos) ma := fun G g => pw_or1 (ha G g)
theorem qw_and {a b : Expr} {rest : List Expr} {ma mb : M Bool} (ha : QT T io X W p1 a ma) (hb : QW T io X W p2 (.BoolOp .And (b :: rest) pos) mb) : QW T io X W (p1 && p2) (.BoolOp .And (a :: b :: rest) pos) (mAndT ma mb) := fun G g => PW.imp (pw_and (ha G g) (hb G g)) fun σ H Q ⟨F, r0, t, tv, h1, h2⟩ => by
  refine ⟨F, r0, t, tv, h1, (sat_bind h2).mono (fun c r1 q F' H' s1 s2 h3 => ?_) fun _ _ q => q⟩
  cases c with
  | false =>
    rw [if_neg Bool.false_ne_true] at q ⊢
    exact q F' H' s1 (fun z => s2 (andL z)) h3
  | true =>
    rw [if_pos rfl] at q ⊢
    exact ⟨F', r1, t, tv, h3, q.mono (fun b r' q F2 H2 s3 s4 h4 => q F2 H2 (s1.trans s3) (fun z => (s2 (andL z)).trans (s4 (andR z))) h4) fun _ _ q => q.trans s1⟩
theorem qw_or {a b : Expr} {rest : List Expr} {ma mb : M Bool} (ha : QT T io X W p1 a ma) (hb : QW T io X W p2 (.BoolOp .Or (b :: rest) pos) mb) : QW T io X W (p1 && p2) (.BoolOp .Or (a :: b :: rest) pos) (mOrT ma mb) := fun G g => PW.imp (pw_or (ha G g) (hb G g)) fun σ H Q ⟨F, r0, t, tv, h1, h2⟩ => by
  refine ⟨F, r0, t, tv, h1, (sat_bind h2).mono (fun c r1 q F' H' s1 s2 h3 => ?_) fun _ _ q => q⟩
  cases c with
  | true =>
    rw [if_pos rfl] at q ⊢
    exact q F' H' s1 (fun z => s2 (andL z)) h3
  | false =>
    rw [if_neg Bool.false_ne_true] at q ⊢
    exact ⟨F', r1, t, tv, h3, q.mono (fun b r' q F2 H2 s3 s4 h4 => q F2 H2 (s1.trans s3) (fun z => (s2 (andL z)).trans (s4 (andR z))) h4) fun _ _ q => q.trans s1⟩
theorem QW.qt {e : Expr} {m : M Bool} (h : QW T io X W p e m) : QT T io X W p e m := fun G g => (h G g).pt
/-- as values: True and False alone -/
def mAnd (a b : M D) : M D := M.bind a fun x => M.bind (M.opt x.bl?) fun c => if c = true then b else M.ret (.bl false)
def mOr (a b : M D) : M D := M.bind a fun x => M.bind (M.opt x.bl?) fun c => if c = true then M.ret (.bl true) else b
def mNot (a : M D) : M D := M.bind a fun x => M.bind (M.opt x.bl?) fun c => M.ret (.bl (!c))
theorem qe_not {a : Expr} {ma : M D} (ha : QB T io X W p a ma) : QE T io X W p (.UnaryOp .Not a pos) (mNot ma) := fun G g => PE.imp (pe_not (ha G g)) fun σ H Q ⟨F, r0, t, tv, h1, h2⟩ => by
  refine ⟨F, r0, t, tv, h1, (sat_bind h2).mono (fun d r' q v F' H' s1 s2 h3 lk => ?_) fun _ _ q => q⟩
  obtain ⟨b, e, q⟩ := sat_opt (sat_bind q)
  rw [D.bl?_eq e] at lk
  cases lk with
  | leaf z => exact ⟨b, z, q _ F' H' s1 s2 (h3.push (.leaf rfl))⟩
theorem qe_one {op : BoolOp} {a : Expr} {ma : M D} (ha : QE T io X W p a ma) : QE T io X W p (.BoolOp op [a] pos) ma := fun G g => pe_one (ha G g)
theorem qe_and {a b : Expr} {rest : List Expr} {ma mb : M D} (ha : QB T io X W p1 a ma) (hb : QE T io X W p2 (.BoolOp .And (b :: rest) pos) mb) : QE T io X W (p1 && p2) (.BoolOp .And (a :: b :: rest) pos) (mAnd ma mb) := fun G g => PE.imp (pe_and (ha G g) (hb G g)) fun σ H Q ⟨F, r0, t, tv, h1, h2⟩ => by
  refine ⟨F, r0, t, tv, h1, (sat_bind h2).mono (fun d r1 q v F' H' s1 s2 h3 lk => ?_) fun _ _ q => q⟩
  obtain ⟨c, e, q⟩ := sat_opt (sat_bind q)
  rw [D.bl?_eq e] at lk
  cases lk with
  | leaf z =>
    refine ⟨c, z, ?_⟩
    cases c with
    | false =>
      rw [if_neg Bool.false_ne_true] at q ⊢
      exact q _ F' H' s1 (fun z => s2 (andL z)) (h3.push (.leaf rfl))
    | true =>
      rw [if_pos rfl] at q ⊢
      exact ⟨F', r1, t, tv, h3, q.mono (fun b r' q w F2 H2 s3 s4 h4 => q w F2 H2 (s1.trans s3) (fun z => (s2 (andL z)).trans (s4 (andR z))) h4) fun _ _ q => q.trans s1⟩
theorem qe_or {a b : Expr} {rest : List Expr} {ma mb : M D} (ha : QB T io X W p1 a ma) (hb : QE T io X W p2 (.BoolOp .Or (b :: rest) pos) mb) : QE T io X W (p1 && p2) (.BoolOp .Or (a :: b :: rest) pos) (mOr ma mb) := fun G g => PE.imp (pe_or (ha G g) (hb G g)) fun σ H Q ⟨F, r0, t, tv, h1, h2⟩ => by
  refine ⟨F, r0, t, tv, h1, (sat_bind h2).mono (fun d r1 q v F' H' s1 s2 h3 lk => ?_) fun _ _ q => q⟩
  obtain ⟨c, e, q⟩ := sat_opt (sat_bind q)
  rw [D.bl?_eq e] at lk
  cases lk with
  | leaf z =>
    refine ⟨c, z, ?_⟩
    cases c with
    | true =>
      rw [if_pos rfl] at q ⊢
      exact q _ F' H' s1 (fun z => s2 (andL z)) (h3.push (.leaf rfl))
    | false =>
      rw [if_neg Bool.false_ne_true] at q ⊢
      exact ⟨F', r1, t, tv, h3, q.mono (fun b r' q w F2 H2 s3 s4 h4 => q w F2 H2 (s1.trans s3) (fun z => (s2 (andL z)).trans (s4 (andR z))) h4) fun _ _ q => q.trans s1⟩
/-- a if t else b -/
def mIf (c : M Bool) (a b : M D) : M D := M.bind c fun x => if x = true then a else b
theorem qe_if {c a b : Expr} {mc : M Bool} {ma mb : M D} {p3 : Bool} (hc : QT T io X W p1 c mc) (ha : QE T io X W p2 a ma) (hb : QE T io X W p3 b mb) : QE T io X W (p1 && (p2 && p3)) (.IfExp c a b pos) (mIf mc ma mb) := fun G g => PE.imp (pe_ifExp (hc G g) (ha G g) (hb G g)) fun σ H Q ⟨F, r0, t, tv, h1, h2⟩ => by
  refine ⟨F, r0, t, tv, h1, (sat_bind h2).mono (fun c r1 q F' H' s1 s2 h3 => ?_) fun _ _ q => q⟩
  cases c with
  | true =>
    rw [if_pos rfl] at q ⊢
    exact ⟨F', r1, t, tv, h3, q.mono (fun b r' q w F2 H2 s3 s4 h4 => q w F2 H2 (s1.trans s3) (fun z => (s2 (andL z)).trans (s4 (andL (andR z)))) h4) fun _ _ q => q.trans s1⟩
  | false =>
    rw [if_neg Bool.false_ne_true] at q ⊢
    exact ⟨F', r1, t, tv, h3, q.mono (fun b r' q w F2 H2 s3 s4 h4 => q w F2 H2 (s1.trans s3) (fun z => (s2 (andL z)).trans (s4 (andR (andR z)))) h4) fun _ _ q => q.trans s1⟩
end
end VL

/-! VL5: arguments, displays, statements, loops. -/
namespace VL
open PySem PySem.Spec L2

def M.ck (c : Bool) : M Unit := fun r => if c = true then .ok () r else .no
theorem sat_ck {c : Bool} {r : VS} {ok : Unit → VS → Prop} {ex : String → VS → Prop} (h : (M.ck c r).sat ok ex) : c = true ∧ ok () r := by
  unfold M.ck at h
  split at h
  · rename_i e; exact ⟨e, h⟩
  · exact h.elim
section
variable {T : String → Option Addr} {io : Io} {X : Cx} {W : WX} {p p1 p2 : Bool} {pos : Pos}

/-! ### arguments -/
def mNil : M (List D) := M.ret []
def mCons (a : M D) (b : M (List D)) : M (List D) := M.bind a fun d => M.bind b fun ds => M.ret (d :: ds)
theorem qa_nil : QA T io X W true [] mNil := fun G _ => PA.imp pa_nil fun σ H Q ⟨F, r, t, tv, h1, h2⟩ => h2 [] F H (Same.refl _) (fun _ => Same.refl _) rfl h1
theorem qa_cons {e : Expr} {es : List Expr} {a : M D} {b : M (List D)} (ha : QE T io X W p1 e a) (hb : QA T io X W p2 es b) (hs : starEach (e :: es) X.env = (false, eval e X.env) :: starEach es X.env := by rfl) : QA T io X W (p1 && p2) (e :: es) (mCons a b) :=
  fun G g => PA.imp (pa_cons (ha G g) (hb G g) hs) fun σ H Q ⟨F, r, t, tv, h1, h2⟩ => by
    refine ⟨F, r, t, tv, h1, (sat_bind h2).mono (fun d r1 q v F1 H1 s1 s2 h3 => ?_) fun _ _ q => q⟩
    refine ⟨F1, r1, d :: t, v :: tv, h3, (sat_bind q).mono (fun ds r2 q vs F2 H2 s3 s4 hl h4 => ?_) fun c r' q => ?_⟩
    · exact q (v :: vs) F2 H2 (s1.trans s3) (fun z => (s2 (andL z)).trans (s4 (andR z))) (by simp [hl]) (Rl.lift hl h4)
    · exact fun C F2 H2 z s3 h4 => q C F2 H2 z (s1.trans s3) h4.drop
theorem qab_nil : QAB T io X W true [] mNil := fun G _ => PA.imp pa_nil fun σ H Q ⟨F, r, t, tv, h1, h2⟩ => h2 [] F H (Same.refl _) (fun _ => Same.refl _) h1 .nil
theorem qab_cons {e : Expr} {es : List Expr} {a : M D} {b : M (List D)} (ha : QB T io X W p e a) (hb : QAB T io X W true es b) (hs : starEach (e :: es) X.env = (false, eval e X.env) :: starEach es X.env := by rfl) : QAB T io X W p (e :: es) (mCons a b) :=
  fun G g => PA.imp (pa_cons (ha G g) (hb G g) hs) fun σ H Q ⟨F, r, t, tv, h1, h2⟩ => by
    refine ⟨F, r, t, tv, h1, (sat_bind h2).mono (fun d r1 q v F1 H1 s1 s2 h3 lk => ?_) fun _ _ q => q⟩
    refine ⟨F1, r1, t, tv, h3, (sat_bind q).mono (fun ds r2 q vs F2 H2 s3 s4 h4 lks => ?_) fun c r' q => q.trans s1⟩
    exact q (v :: vs) F2 H2 (s1.trans s3) (fun z => (s2 z).trans (s4 rfl)) h4 (.cons (lk.mono s3 (s4 rfl)) lks)

/-! ### displays -/
def mLst (a : M (List D)) : M D := M.bind a fun ds => M.bind (M.ck (decide (ds.length ≤ sizeLine))) fun _ => M.ret (.lst true ds)
theorem qe_lst {es : List Expr} {a : M (List D)} (h : QA T io X W p es a) : QE T io X W p (.List es pos) (mLst a) := fun G g => PE.imp (pe_lst (h G g)) fun σ H Q ⟨F, r, t, tv, h1, h2⟩ => by
  refine ⟨F, r, t, tv, h1, (sat_bind h2).mono (fun ds r1 q vs F1 H1 s1 s2 hl h3 => ?_) fun _ _ q => q⟩
  obtain ⟨hz, q⟩ := sat_ck (sat_bind q)
  refine ⟨by rw [← hl]; exact of_decide_eq_true hz, fun a ha => ?_⟩
  exact q (.ref a) F1 _ s1 (fun z => (s2 z).trans (same_upd ha)) (Rl.alloc (k := .lst) (fun _ _ z => nomatch z) hl trivial h3 ha)
/-- a tuple whose items may be shared is frozen at once -/
def mTup (a : M (List D)) : M D := M.bind a fun ds => M.bind (M.ck (decide (ds.length ≤ sizeLine))) fun _ => M.ret (.tup (!ds.all D.shr) ds)
theorem qe_tup {es : List Expr} {x1} {a : M (List D)} (h : QA T io X W p es a) : QE T io X W p (.Tuple es x1 pos) (mTup a) := fun G g => PE.imp (pe_tup (h G g)) fun σ H Q ⟨F, r, t, tv, h1, h2⟩ => by
  refine ⟨F, r, t, tv, h1, (sat_bind h2).mono (fun ds r1 q vs F1 H1 s1 s2 hl h3 => ?_) fun _ _ q => q⟩
  obtain ⟨hz, q⟩ := sat_ck (sat_bind q)
  refine ⟨by rw [← hl]; exact of_decide_eq_true hz, fun a ha => ?_⟩
  have h4 := Rl.alloc (k := .tup) (fun _ _ z => nomatch z) hl trivial h3 ha
  cases e : ds.all D.shr with
  | false =>
    rw [e] at q
    exact q (.ref a) F1 _ s1 (fun z => (s2 z).trans (same_upd ha)) h4
  | true =>
    rw [e] at q
    have fz := (Rl.topN hl h3).shr e
    obtain ⟨F2, s3, h5, _⟩ := h4.freeze
    have ed : D.frz (.node true .tup ds) = .node false .tup ds := by
      simp only [D.frz]; rw [Fz.frz_both.2 _ _ fz]
    rw [ed] at h5
    exact q (.ref a) F2 _ (s1.trans s3) (fun z => (s2 z).trans (same_upd ha)) h5

/-! ### stores -/
/-- a target takes data -/
abbrev Gt := D → VS → Option VS
abbrev Gts := List D → VS → Option VS
/-- sl: the slots that it may turn -/
def Off (sl : List Nat) (σ σ' : L2.St) : Prop := σ'.length = σ.length ∧ ∀ j, j ∉ sl → σ'[j]? = σ[j]?
theorem Off.refl {sl : List Nat} {σ : L2.St} : Off sl σ σ := ⟨rfl, fun _ _ => rfl⟩
theorem Off.trans {sl sl' : List Nat} {σ σ1 σ2 : L2.St} (a : Off sl σ σ1) (b : Off sl' σ1 σ2) : Off (sl ++ sl') σ σ2 := ⟨b.1.trans a.1, fun j h => (b.2 j fun z => h (List.mem_append.mpr (.inr z))).trans (a.2 j fun z => h (List.mem_append.mpr (.inl z)))⟩
theorem Off.set {i : Nat} {σ : L2.St} {x : Option V} : Off [i] σ (σ.set i x) := ⟨by simp, fun j h => List.getElem?_set_ne fun z => h (by simp [z])⟩
def tG (K : PySem.W.Frag) (T : String → Option Addr) (G : Gm) (sl : List Nat) (pg : Bool) (m : Gt) : TG := fun v σ H Q => ∃ F r t tv d r', Rl K T G F r (d :: t) σ (v :: tv) H ∧ m d r = some r' ∧ ∀ σ' F' H', Off sl σ σ' → Same F F' → (pg = true → Same H H') → Rl K T G F' r' t σ' tv H' → Q σ' H'
def tGs (K : PySem.W.Frag) (T : String → Option Addr) (G : Gm) (sl : List Nat) (pg : Bool) (m : Gts) : TGs := fun vs σ H Q => ∃ F r t tv ds r', ds.length = vs.length ∧ Rl K T G F r (ds ++ t) σ (vs ++ tv) H ∧ m ds r = some r' ∧ ∀ σ' F' H', Off sl σ σ' → Same F F' → (pg = true → Same H H') → Rl K T G F' r' t σ' tv H' → Q σ' H'
def QG (T : String → Option Addr) (io : Io) (X : Cx) (sl : List Nat) (pg : Bool) (tg : Expr) (m : Gt) : Prop := ∀ G, Pins io G → PG X tg (tG X.K T G sl pg m)
def QGs (T : String → Option Addr) (io : Io) (X : Cx) (sl : List Nat) (pg : Bool) (tg : List Expr) (m : Gts) : Prop := ∀ G, Pins io G → PGs X tg (tGs X.K T G sl pg m)
theorem PG.imp {X : Cx} {e : Expr} {t t' : TG} (h : PG X e t) (i : ∀ v σ H Q, t' v σ H Q → t v σ H Q) : PG X e t' := ⟨fun pins s σ H x u Q I r q => h.run pins s σ H x u Q I r (i x σ H Q q)⟩
theorem PGs.imp {X : Cx} {e : List Expr} {t t' : TGs} (h : PGs X e t) (i : ∀ v σ H Q, t' v σ H Q → t v σ H Q) : PGs X e t' := ⟨fun pins s σ H x u Q I r q => h.run pins s σ H x u Q I r (i x σ H Q q)⟩
def gPut (i : Nat) : Gt := fun d r => if i < r.length then some (r.set i (some d)) else none
theorem qg_name {i : Nat} {x : Str} (hN : X.N.Nodup) (hi : X.N[i]? = some x) (hx : Loc X.env.scope x) (hio : i ∉ io.l) (hf : X.fn x = true ∨ X.env.scope.names.lookup x = some .local := by first | exact .inl rfl | exact .inr rfl | assumption) : QG T io X [i] true (.Name x pos) (gPut i) :=
  fun G g => PG.imp (pg_name hN hi hx hf) fun v σ H Q ⟨F, r, t, tv, d, r', h1, h2, h3⟩ => by
    unfold gPut at h2
    split at h2
    · rename_i hl
      cases h2
      exact h3 _ F H Off.set (Same.refl _) (fun _ => Same.refl _) (h1.put hl fun w e => absurd (g.1 i w e) hio)
    · cases h2
def gNilM : Gts := fun ds r => match ds with
  | [] => some r
  | _ => none
def gConsM (a : Gt) (b : Gts) : Gts := fun ds r => match ds with
  | d :: ds => (a d r).bind fun r' => b ds r'
  | [] => none
theorem qgs_nil : QGs T io X [] true [] gNilM := fun G g => PGs.imp pgs_nil fun vs σ H Q ⟨F, r, t, tv, ds, r', hl, h1, h2, h3⟩ => by
  cases ds with
  | nil =>
    cases vs with
    | nil =>
      cases h2
      exact ⟨rfl, h3 σ F H Off.refl (Same.refl _) (fun _ => Same.refl _) h1⟩
    | cons _ _ => simp at hl
  | cons d ds => cases h2
theorem qgs_cons {e : Expr} {es : List Expr} {a : Gt} {b : Gts} {sl sl' : List Nat} {pg pg' : Bool} (ha : QG T io X sl pg e a) (hb : QGs T io X sl' pg' es b) (hs : (assignEach (e :: es) X.env).map (·.2) = assign e X.env :: (assignEach es X.env).map (·.2) := by rfl) : QGs T io X (sl ++ sl') (pg && pg') (e :: es) (gConsM a b) := fun G g => PGs.imp (pgs_cons (ha G g) (hb G g) hs) fun vs σ H Q ⟨F, r, t, tv, ds, r', hl, h1, h2, h3⟩ => by
  cases ds with
  | nil => cases h2
  | cons d ds =>
    cases vs with
    | nil => simp at hl
    | cons v vs =>
      simp only [gConsM] at h2
      cases e1 : a d r with
      | none => rw [e1] at h2; cases h2
      | some r1 =>
        rw [e1] at h2
        refine ⟨v, vs, rfl, F, r, ds ++ t, vs ++ tv, d, r1, h1, e1, fun σ' F' H' o1 s1 z1 h4 => ?_⟩
        exact ⟨F', r1, t, tv, ds, r', by simpa using hl, h4, h2, fun σ2 F2 H2 o2 s2 z2 h5 => h3 σ2 F2 H2 (o1.trans o2) (s1.trans s2) (fun z => (z1 (andL z)).trans (z2 (andR z))) h5⟩
/-- the items of a node on top -/
theorem Rl.open {K : PySem.W.Frag} {G : Gm} {F H : Hp} {r : VS} {t : List D} {σ : L2.St} {tv : List V} {o : Bool} {k : Kn} {ds : List D} {v : V} (h : Rl K T G F r (.node o k ds :: t) σ (v :: tv) H) :
    ∃ a vs, v = .ref a ∧ NodeF K T H a k vs ∧ ds.length = vs.length ∧ Rl K T G F r (ds ++ t) σ (vs ++ tv) H := by
  obtain ⟨⟨Ps, Pt, h1, h2, dj, hq⟩, b1, b2, b3, b4, b5⟩ := h
  cases h2 with
  | @cons _ _ _ _ _ A B o g2 dj2 un =>
    cases o with
    | fz hz he =>
      cases hz with
      | @node a k vs ds hn hl =>
        have base : Rl K T G F r t σ tv H := ⟨⟨Ps, B, h1, g2, fun a p q => dj a p ((un a).mpr (.inr q)), fun a p => hq a (p.imp id fun q => (un a).mpr (.inr q))⟩, b1, b2, b3, b4, b5⟩
        exact ⟨a, vs, rfl, hn.mono b1, hl.length, base.pushL hl⟩
    | @own a dx k vs ds _ P0 hn hl n1 n2 f1 f2 hp =>
      refine ⟨a, vs, rfl, hn.toF, hl.length, ⟨Ps, fun b => P0 b ∨ B b, h1, OwL.join hl g2 (fun b p q => dj2 b ((hp b).mpr (.inr p)) q) fun _ => Iff.rfl, fun b p q => ?_, fun b p => ?_⟩, b1, b2, b3, b4, b5⟩
      · rcases q with q | q
        · exact dj b p ((un b).mpr (.inl ((hp b).mpr (.inr q))))
        · exact dj b p ((un b).mpr (.inr q))
      · rcases p with p | p | p
        · exact hq b (.inl p)
        · exact hq b (.inr ((un b).mpr (.inl ((hp b).mpr (.inr p)))))
        · exact hq b (.inr ((un b).mpr (.inr p)))
def tup? (n : Nat) : D → Option (List D)
  | .node _ .tup ds => if ds.length = n then some ds else none
  | _ => none
theorem tup?_eq {n : Nat} {d : D} {ds : List D} (h : tup? n d = some ds) : ∃ o, d = .node o .tup ds ∧ ds.length = n := by
  cases d with
  | leaf s => cases h
  | node o k es =>
    cases k <;> simp [tup?] at h
    exact ⟨o, by rw [h.2], by rw [← h.2]; exact h.1⟩
def gTupM (n : Nat) (m : Gts) : Gt := fun d r => (tup? n d).bind fun ds => m ds r
theorem qg_tup {es : List Expr} {k : Nat} {n : Nat} {m : Gts} {sl : List Nat} {pg : Bool} (hc : X.calm = true) (h : QGs T io X sl pg es m) (hn : (assignEach es X.env).length = n := by rfl) (hst : (assignEach es X.env).findIdx? (·.1) = none := by rfl) : QG T io X sl pg (.Tuple es k pos) (gTupM n m) :=
  fun G g => PG.imp (pg_tup hc (h G g) hn hst) fun v σ H Q ⟨F, r, t, tv, d, r', h1, h2, h3⟩ => by
    unfold gTupM at h2
    cases e : tup? n d with
    | none => rw [e] at h2; cases h2
    | some ds =>
      rw [e] at h2
      obtain ⟨o, rfl, hl⟩ := tup?_eq e
      obtain ⟨a, vs, rfl, hn, hlv, h4⟩ := h1.open
      exact ⟨a, vs, rfl, hn.2, by rw [← hlv]; exact hl, F, r, t, tv, ds, r', hlv, h4, h2, h3⟩

/-! ### statements -/
def mTo (g : Gt) (d : D) : M Fl := fun r => match g d r with
  | some r' => .ok .nx r'
  | none => .no
def mAsg (a : M D) (g : Gt) : M Fl := M.bind a (mTo g)
def mDrop (a : M D) : M Fl := M.bind a fun _ => M.ret .nx
def mRet (a : M D) : M Fl := M.bind a fun d => M.ret (.rt d)
def mRetN : M Fl := M.ret (.rt .non)
def mSeq (a b : M Fl) : M Fl := M.bind a fun f => match f with
  | .nx => b
  | .rt d => M.ret (.rt d)
  | .bk => M.ret .bk
  | .ct => M.ret .ct
def mIfS (c : M Bool) (a b : M Fl) : M Fl := M.bind c fun x => if x = true then a else b
theorem sat_to {g : Gt} {d : D} {r : VS} {ok : Fl → VS → Prop} {ex : String → VS → Prop} (h : (mTo g d r).sat ok ex) : ∃ r', g d r = some r' ∧ ok .nx r' := by
  unfold mTo at h
  cases e : g d r with
  | none => rw [e] at h; exact h.elim
  | some r' => rw [e] at h; exact ⟨r', rfl, h⟩
theorem qs_asg {tg e : Expr} {a : M D} {g : Gt} {sl : List Nat} {pg : Bool} (he : QE T io X W p e a) (hg : QG T io X sl pg tg g) (hs : swapsWithSole [tg] e pos.line X.env = pure false := by rfl) (hw : swappedStores [tg] e X.env = pure none := by rfl) (h1 : (assignEach [tg] X.env).map (·.2) = [assign tg X.env] := by rfl) : QS T io X W (.Assign [tg] e pos) (mAsg a g) :=
  fun G gg => PS.imp (ps_asg (he G gg) (hg G gg) hs hw h1) fun B σ H ⟨F, r, t, tv, h1, h2⟩ => by
    refine ⟨F, r, t, tv, h1, (sat_bind h2).mono (fun d r1 q v F1 H1 s1 s2 h3 => ?_) fun _ _ q => q.toP⟩
    obtain ⟨r', e, q⟩ := sat_to q
    exact ⟨F1, r1, t, tv, d, r', h3, e, fun σ2 F2 H2 _ s3 _ h4 => q σ2 F2 H2 (s1.trans s3) h4⟩
theorem qs_set {i : Nat} {x : Str} {e : Expr} {pos' : Pos} {a : M D} (hN : X.N.Nodup) (hi : X.N[i]? = some x) (hx : Loc X.env.scope x) (hio : i ∉ io.l) (he : QE T io X W p e a) (hs : swapsWith e (some (.Name x pos')) pos.line X.env = pure false := by rfl)
    (hf : X.fn x = true ∨ X.env.scope.names.lookup x = some .local := by first | exact .inl rfl | exact .inr rfl | assumption) : QS T io X W (.Assign [.Name x pos'] e pos) (mAsg a (gPut i)) :=
  fun G g => PS.imp (ps_set hN hi hx (he G g) hs hf) fun B σ H ⟨F, r, t, tv, h1, h2⟩ => by
    refine ⟨F, r, t, tv, h1, (sat_bind h2).mono (fun d r1 q v F1 H1 s1 s2 h3 => ?_) fun _ _ q => q.toP⟩
    obtain ⟨r', e, q⟩ := sat_to q
    unfold gPut at e
    split at e
    · rename_i hl
      cases e
      exact q _ F1 H1 s1 (h3.put hl fun w e => absurd (g.1 i w e) hio)
    · cases e
theorem qs_expr {e : Expr} {a : M D} (he : QE T io X W p e a) (hs : swapsWith e none pos.line X.env = pure false := by rfl) : QS T io X W (.Expr e pos) (mDrop a) :=
  fun G g => PS.imp (ps_expr (he G g) hs) fun B σ H ⟨F, r, t, tv, h1, h2⟩ => 
    ⟨F, r, t, tv, h1, (sat_bind h2).mono (fun d r1 q v F1 H1 s1 s2 h3 => q σ F1 H1 s1 h3.drop) fun _ _ q => q.toP⟩
theorem qs_ret {e : Expr} {a : M D} (he : QE T io X W p e a) : QS T io X W (.Return (some e) pos) (mRet a) :=
  fun G g => PS.imp (ps_ret (he G g)) fun B σ H ⟨F, r, t, tv, h1, h2⟩ => 
    ⟨F, r, t, tv, h1, (sat_bind h2).mono (fun d r1 q v F1 H1 s1 s2 h3 => q σ F1 H1 s1 v h3) fun _ _ q => q.toP⟩
theorem qs_retN : QS T io X W (.Return none pos) mRetN :=
  fun G g => PS.imp ps_retN fun B σ H ⟨F, r, t, tv, h1, h2⟩ => h2 σ F H (Same.refl _) .non (h1.push (.leaf rfl))
theorem qs_pass : QS T io X W (.Pass pos) (M.ret .nx) := fun G g => PS.imp ps_pass fun B σ H ⟨F, r, t, tv, h1, h2⟩ => h2 σ F H (Same.refl _) h1
theorem qs_break : QS T io X W (.Break pos) (M.ret .bk) := fun G g => PS.imp ps_break fun B σ H ⟨F, r, t, tv, h1, h2⟩ => h2 σ F H (Same.refl _) h1
theorem qs_continue : QS T io X W (.Continue pos) (M.ret .ct) := fun G g => PS.imp ps_continue fun B σ H ⟨F, r, t, tv, h1, h2⟩ => h2 σ F H (Same.refl _) h1
theorem qs_if {c : Expr} {a b : List Stmt} {mc : M Bool} {ma mb : M Fl} (hc : QT T io X W p c mc) (ha : QSs T io X W a ma) (hb : QSs T io X W b mb) : QS T io X W (.If c a b pos) (mIfS mc ma mb) :=
  fun G g => PS.imp (ps_if (hc G g) (ha G g) (hb G g)) fun B σ H ⟨F, r, t, tv, h1, h2⟩ => by
    refine ⟨F, r, t, tv, h1, (sat_bind h2).mono (fun c r1 q F1 H1 s1 s2 h3 => ?_) fun _ _ q => q.toP⟩
    cases c with
    | true =>
      rw [if_pos rfl] at q ⊢
      exact ⟨F1, r1, t, tv, h3, q.mono (fun _ _ q => q.trans s1) fun _ _ q => q.trans s1⟩
    | false =>
      rw [if_neg Bool.false_ne_true] at q ⊢
      exact ⟨F1, r1, t, tv, h3, q.mono (fun _ _ q => q.trans s1) fun _ _ q => q.trans s1⟩
theorem qss_nil : QSs T io X W [] (M.ret .nx) := fun G g => PSs.imp pss_nil fun B σ H ⟨F, r, t, tv, h1, h2⟩ => h2 σ F H (Same.refl _) h1
theorem qss_one {st : Stmt} {a : M Fl} (h : QS T io X W st a) : QSs T io X W [st] a := fun G g => pss_one (h G g)
theorem qss_cons {st : Stmt} {rest : List Stmt} {a b : M Fl} (h : QS T io X W st a) (hr : QSs T io X W rest b) : QSs T io X W (st :: rest) (mSeq a b) :=
  fun G g => PSs.imp (pss_cons (h G g) (hr G g)) fun B σ H ⟨F, r, t, tv, h1, h2⟩ => by
    refine ⟨F, r, t, tv, h1, (sat_bind h2).mono (fun f r1 q σ1 F1 H1 s1 => ?_) fun _ _ q => q⟩
    cases f with
    | nx => exact fun h3 => ⟨F1, r1, t, tv, h3, q.mono (fun _ _ q => q.trans s1) fun _ _ q => q.trans s1⟩
    | rt d => exact q σ1 F1 H1 s1
    | bk => exact q σ1 F1 H1 s1
    | ct => exact q σ1 F1 H1 s1

/-! ### while -/
/-- what a turn's end says -/
def loopK (again : M Fl) : Fl → M Fl
  | .nx => again
  | .ct => again
  | .bk => M.ret .nx
  | .rt d => M.ret (.rt d)
def whileN (c : M Bool) (b : M Fl) : Nat → M Fl
  | 0 => M.no
  | n + 1 => M.bind c fun x => if x = true then M.bind b (loopK (whileN c b n)) else M.ret .nx
open Classical in
noncomputable def mWhile (c : M Bool) (b : M Fl) : M Fl := fun r => if h : ∃ n, whileN c b n r ≠ .no then whileN c b h.choose r else .no
theorem bind_no {α β : Type} {m : M α} {k : α → M β} {r : VS} (h : M.bind m k r ≠ .no) : (∃ a r', m r = .ok a r' ∧ k a r' ≠ .no) ∨ ∃ c r', m r = .ex c r' := by
  unfold M.bind at h
  cases e : m r with
  | ok a r' => rw [e] at h; exact .inl ⟨a, r', rfl, h⟩
  | ex c r' => exact .inr ⟨c, r', rfl⟩
  | no => rw [e] at h; exact absurd rfl h
theorem whileN_succ {c : M Bool} {b : M Fl} : ∀ (n : Nat) (r : VS), whileN c b n r ≠ .no → whileN c b (n + 1) r = whileN c b n r
  | 0, r, h => absurd rfl h
  | n + 1, r, h => by
    have ih := whileN_succ (c := c) (b := b) n
    have step : ∀ n, whileN c b (n + 1) r = M.bind c (fun x => if x = true then M.bind b (loopK (whileN c b n)) else M.ret .nx) r := fun _ => rfl
    rw [step] at h
    rw [step (n + 1), step n]
    unfold M.bind at h ⊢
    cases e : c r with
    | no => rfl
    | ex _ _ => rfl
    | ok x r1 =>
      rw [e] at h
      dsimp only at h ⊢
      cases x with
      | false => rfl
      | true =>
        rw [if_pos rfl] at h ⊢
        rw [if_pos rfl]
        cases e2 : b r1 with
        | no => rfl
        | ex _ _ => rfl
        | ok f r2 =>
          rw [e2] at h
          dsimp only at h ⊢
          cases f with
          | nx => exact ih r2 h
          | ct => exact ih r2 h
          | bk => rfl
          | rt d => rfl
theorem whileN_add {c : M Bool} {b : M Fl} {n : Nat} {r : VS} (h : whileN c b n r ≠ .no) : ∀ k, whileN c b (n + k) r = whileN c b n r
  | 0 => rfl
  | k + 1 => by
    have e := whileN_add h k
    rw [← Nat.add_assoc, whileN_succ (n + k) r (by rw [e]; exact h), e]
theorem mWhile_eq {c : M Bool} {b : M Fl} {n : Nat} {r : VS} (h : whileN c b n r ≠ .no) : mWhile c b r = whileN c b n r := by
  have h' : ∃ n, whileN c b n r ≠ .no := ⟨n, h⟩
  unfold mWhile
  rw [dif_pos h']
  have h2 := h'.choose_spec
  rcases Nat.le_total n h'.choose with l | l
  · obtain ⟨k, e⟩ := Nat.exists_eq_add_of_le l
    rw [e, whileN_add h]
  · obtain ⟨k, e⟩ := Nat.exists_eq_add_of_le l
    have e2 := whileN_add h2 k
    rw [← e] at e2
    exact e2.symm
theorem qs_while {c : Expr} {body : List Stmt} {mc : M Bool} {mb : M Fl} (hp : PassesOwn (model X.prog X.w) X.A X.env X.xe) (hc : QT T io X W p c mc) (hb : QSs T io X W body mb) : QS T io X W (.While c body [] pos) (mWhile mc mb) :=
  fun G g => PS.imp (ps_while hp (hc G g) (hb G g)) fun B σ H ⟨F, r, t, tv, h1, h2⟩ => by
    have hn : ∃ n, whileN mc mb n r ≠ .no := by
      refine Classical.byContradiction fun q => ?_
      unfold mWhile at h2
      rw [dif_neg q] at h2
      exact h2
    obtain ⟨n, hn⟩ := hn
    rw [mWhile_eq hn] at h2
    refine ⟨fun m σ H => ∃ F' r', Same F F' ∧ Rl X.K T G F' r' t σ tv H ∧ (whileN mc mb m r').sat (flS X.K T G B t tv F) (exS X.K T G W t tv F), ⟨n, F, r, Same.refl _, h1, h2⟩, ?_⟩
    rintro m σ1 H1 ⟨F1, r1, s1, h3, q⟩
    cases m with
    | zero => exact q.elim
    | succ m =>
      refine ⟨F1, r1, t, tv, h3, (sat_bind q).mono (fun x r2 q F2 H2 s2 _ h4 => ?_) fun _ _ q => (q.trans s1).toP⟩
      cases x with
      | false =>
        rw [if_neg Bool.false_ne_true] at q ⊢
        exact q σ1 F2 H2 (s1.trans s2) h4
      | true =>
        rw [if_pos rfl] at q ⊢
        refine ⟨fun σ' H' => ∃ F' r', Same F F' ∧ Rl X.K T G F' r' t σ' tv H' ∧ (whileN mc mb m r').sat (flS X.K T G B t tv F) (exS X.K T G W t tv F), fun σ' H' h => ⟨m, Nat.lt_succ_self m, h⟩, ?_⟩
        refine ⟨F2, r2, t, tv, h4, (sat_bind q).mono (fun f r3 q σ3 F3 H3 s3 => ?_) fun _ _ q => q.trans (s1.trans s2)⟩
        cases f with
        | nx => exact fun h5 => ⟨F3, r3, (s1.trans s2).trans s3, h5, q⟩
        | ct => exact fun h5 => ⟨F3, r3, (s1.trans s2).trans s3, h5, q⟩
        | bk => exact fun h5 => q σ3 F3 H3 ((s1.trans s2).trans s3) h5
        | rt d => exact fun v h5 => q σ3 F3 H3 ((s1.trans s2).trans s3) v h5

/-! ### for -/
def mForL (g : Gt) (b : M Fl) : List D → M Fl
  | [] => M.ret .nx
  | d :: ds => M.bind (mTo g d) fun _ => M.bind b (loopK (mForL g b ds))
/-- what walks the items ds: it yields values that are frozen data -/
structure Walks (K : PySem.W.Frag) (T : String → Option Addr) (J : It) (F : Hp) (ds : List D) (Pv : Hp → Prop) : Prop where
  stop : ∀ H, Pv H → J.stop ds.length H
  go : ∀ i H, Pv H → i < ds.length → J.go i H
  yld : ∀ i H x H' d, Pv H → ds[i]? = some d → J.yld i H x H' → Fz K T F d x ∧ H' = H
theorem for_walks {tg : Expr} {gt : TG} {tb : TS} {G : Gm} {g : Gt} {sl : List Nat} {pg : Bool} {mb : M Fl} {body : List Stmt} {J : It} {B : Ends} {F : Hp} {ds : List D} {Pv : Hp → Prop} {r : VS} {t : List D} {tv : List V} {σ : L2.St} {H : Hp}
    (w : Walks X.K T J F ds Pv) (hv : ∀ F' H', Same F F' → Same F' H' → Pv H') (h1 : Rl X.K T G F r t σ tv H) (h2 : (mForL g mb ds r).sat (flS X.K T G B t tv F) (exS X.K T G W t tv F)) :
    ∃ W' : Nat → Nat → L2.St → Hp → Prop, (∃ m, W' 0 m σ H) ∧ ∀ i m σ H, W' i m σ H →
      (J.stop i H ∧ B.nx σ H) ∨ (J.go i H ∧ ∃ N : L2.St → Hp → Prop, (∀ σ' H', N σ' H' → ∃ m', m' < m ∧ W' (i + 1) m' σ' H') ∧ ∀ x H', J.yld i H x H' → tG X.K T G sl pg g x σ H' fun σ2 H2 => tS X.K T G W mb { B with nx := N, ct := N, bk := B.nx } σ2 H2) := by
  refine ⟨fun i m σ H => m = ds.length - i ∧ i ≤ ds.length ∧ ∃ F' r', Same F F' ∧ Rl X.K T G F' r' t σ tv H ∧ (mForL g mb (ds.drop i) r').sat (flS X.K T G B t tv F) (exS X.K T G W t tv F), ⟨ds.length, by simp, Nat.zero_le _, F, r, Same.refl _, h1, by simpa using h2⟩, ?_⟩
  rintro i m σ1 H1 ⟨rfl, hi, F1, r1, s1, h3, q⟩
  have pv := hv F1 H1 s1 h3.sub
  by_cases hlt : i < ds.length
  · refine .inr ⟨w.go i H1 pv hlt, fun σ' H' => ∃ F' r', Same F F' ∧ Rl X.K T G F' r' t σ' tv H' ∧ (mForL g mb (ds.drop (i + 1)) r').sat (flS X.K T G B t tv F) (exS X.K T G W t tv F),
      fun σ' H' h => ⟨ds.length - (i + 1), by omega, rfl, hlt, h⟩, fun x H2 y => ?_⟩
    have ed : ds.drop i = ds[i] :: ds.drop (i + 1) := List.drop_eq_getElem_cons hlt
    rw [ed] at q
    obtain ⟨fz, rfl⟩ := w.yld i H1 x H2 ds[i] pv (List.getElem?_eq_getElem hlt) y
    obtain ⟨r', e, q⟩ := sat_to (sat_bind q)
    refine ⟨F1, r1, t, tv, ds[i], r', h3.push (fz.mono s1), e, fun σ2 F2 H2 _ s2 _ h4 => ?_⟩
    refine ⟨F2, r', t, tv, h4, (sat_bind q).mono (fun f r3 q σ3 F3 H3 s3 => ?_) fun _ _ q => q.trans (s1.trans s2)⟩
    cases f with
    | nx => exact fun h5 => ⟨F3, r3, (s1.trans s2).trans s3, h5, q⟩
    | ct => exact fun h5 => ⟨F3, r3, (s1.trans s2).trans s3, h5, q⟩
    | bk => exact fun h5 => q σ3 F3 H3 ((s1.trans s2).trans s3) h5
    | rt d => exact fun v h5 => q σ3 F3 H3 ((s1.trans s2).trans s3) v h5
  · have e : i = ds.length := by omega
    subst e
    rw [List.drop_eq_nil_of_le (Nat.le_refl _)] at q
    exact .inl ⟨w.stop H1 pv, q σ1 F1 H1 s1 h3⟩
/-- over range(n) -/
def int? : D → Option Int
  | .leaf (.int i) => some i
  | _ => none
theorem int?_eq {d : D} {i : Int} (h : int? d = some i) : d = .int i := by
  cases d with
  | leaf s => cases s <;> simp_all [int?]
  | node o k ds => simp [int?] at h
def rangeL (lo : Int) (n : Nat) : List D := (List.range n).map fun i => .int (lo + (i : Nat))
theorem walks_range {K : PySem.W.Frag} {F : Hp} (lo : Int) (n : Nat) : Walks K T (Itr lo n) F (rangeL lo n) (fun _ => True) where
  stop := fun H _ => by show n ≤ (rangeL lo n).length; simp [rangeL]
  go := fun i H _ h => by show i < n; simpa [rangeL] using h
  yld := fun i H x H' d _ e y => by
    obtain ⟨rfl, rfl⟩ := y
    unfold rangeL at e
    rw [List.getElem?_map] at e
    cases e1 : (List.range n)[i]? with
    | none => rw [e1] at e; cases e
    | some j =>
      rw [e1] at e
      cases e
      obtain ⟨h1, h2⟩ := List.getElem?_eq_some_iff.mp e1
      rw [List.getElem_range] at h2
      subst h2
      exact ⟨.leaf rfl, rfl⟩
def int2? : List D → Option (Int × Int)
  | [.leaf (.int i), .leaf (.int j)] => some (i, j)
  | _ => none
def bnd (i : Int) : Bool := decide (-(2 ^ 62) ≤ i) && decide (i < 2 ^ 62)
def mForR1 (a : M D) (g : Gt) (b : M Fl) : M Fl := M.bind a fun d => M.bind (M.opt (int? d)) fun j => M.bind (M.ck (bnd j)) fun _ => mForL g b (rangeL 0 j.toNat)
def mForR2 (a c : M D) (g : Gt) (b : M Fl) : M Fl := M.bind a fun d => M.bind c fun e => M.bind (M.opt (int? d)) fun i => M.bind (M.opt (int? e)) fun j => M.bind (M.ck (bnd i && bnd j)) fun _ => mForL g b (rangeL i (j - i).toNat)
theorem lk_int {K : PySem.W.Frag} {F H : Hp} {d : D} {v : V} {i : Int} (h : Lk K T F H d v) (e : int? d = some i) : v = .int i := by
  rw [int?_eq e] at h
  cases h with
  | leaf z => exact z
theorem bnd_of {i : Int} (h : bnd i = true) : -(2 ^ 62) ≤ i ∧ i < 2 ^ 62 := by simpa [bnd] using h
theorem qs_for_range1 {tg a : Expr} {body : List Stmt} {ma : M D} {g : Gt} {sl : List Nat} {pg : Bool} {mb : M Fl} {p0 pp : Pos} (hp : PassesOwn (model X.prog X.w) X.A X.env X.xe) (hc : X.calm = true) (hg : Gl X "range") (hm : X.mg "range" = none) (ha : QB T io X W p a ma) (hgt : QG T io X sl pg tg g) (hb : QSs T io X W body mb)
    (hst : starEach [a] X.env = [(false, eval a X.env)] := by rfl) (hs : ∀ x, foldedSetIterable (.Call (.Name "range" p0) [a] [] pp) X.env x = pure x := by intro _; rfl) : QS T io X W (.For tg (.Call (.Name "range" p0) [a] [] pp) body [] pos) (mForR1 ma g mb) :=
  fun G gg => PS.imp (ps_for hp hc (pi_range1 hg hm (qab_cons ha qab_nil hst G gg) hst) (hgt G gg) (hb G gg) hs) fun B σ H ⟨F, r, t, tv, h1, h2⟩ => by
    refine ⟨F, r, t, tv, h1, ?_⟩
    have q := sat_bind h2
    show (mCons ma mNil r).sat _ _
    unfold mCons
    have key : ∀ {α β : Type} {m : M α} {k : α → M β} {ok : β → VS → Prop} {ex : String → VS → Prop}, (m r).sat (fun a r' => (k a r').sat ok ex) ex → (M.bind m k r).sat ok ex := fun {α β m k ok ex} h => by
      unfold M.bind
      cases e : m r with
      | ok a r' => rw [e] at h; exact h
      | ex c r' => rw [e] at h; exact h
      | no => rw [e] at h; exact h
    refine key (q.mono (fun d r1 q => ?_) fun _ _ q => q.toP)
    show ((M.bind mNil fun ds => M.ret (d :: ds)) r1).sat _ _
    obtain ⟨j, e, q⟩ := sat_opt (sat_bind q)
    obtain ⟨bj, q⟩ := sat_ck (sat_bind q)
    intro vs F1 H1 s1 _ h3 lk
    cases lk with
    | cons lk1 lk2 =>
      cases lk2
      obtain ⟨b1, b2⟩ := bnd_of bj
      refine ⟨j, by rw [lk_int lk1 e], b1, b2, ?_⟩
      exact for_walks (tg := tg) (gt := tG X.K T G sl pg g) (tb := tS X.K T G W mb) (body := body) (walks_range 0 j.toNat) (fun _ _ _ _ => trivial) h3 (q.mono (fun _ _ q => q.trans s1) fun _ _ q => q.trans s1)
end
end VL

/-! VL6: loops over sequences, raise, try, functions and their calls. -/
namespace VL
open PySem PySem.Spec L2

section
variable {T : String → Option Addr} {io : Io} {X : Cx} {W : WX} {p p1 p2 : Bool} {pos : Pos}

theorem bind_sat {α β : Type} {m : M α} {k : α → M β} {r : VS} {ok : β → VS → Prop} {ex : String → VS → Prop} (h : (m r).sat (fun a r' => (k a r').sat ok ex) ex) : (M.bind m k r).sat ok ex := by
  unfold M.bind
  cases e : m r with
  | ok a r' => rw [e] at h; exact h
  | ex c r' => rw [e] at h; exact h
  | no => rw [e] at h; exact h
def lst? : D → Option (List D)
  | .node _ .lst ds => some ds
  | _ => none
theorem lst?_eq {d : D} {ds : List D} (h : lst? d = some ds) : ∃ o, d = .node o .lst ds := by
  cases d with
  | leaf s => cases h
  | node o k es => cases k <;> simp [lst?] at h; subst h; exact ⟨o, rfl⟩
def tupl? : D → Option (List D)
  | .node _ .tup ds => some ds
  | _ => none
theorem tupl?_eq {d : D} {ds : List D} (h : tupl? d = some ds) : ∃ o, d = .node o .tup ds := by
  cases d with
  | leaf s => cases h
  | node o k es => cases k <;> simp [tupl?] at h; subst h; exact ⟨o, rfl⟩
def mForS (f : D → Option (List D)) (src : M D) (g : Gt) (b : M Fl) : M Fl := M.bind src fun d => M.bind (M.opt (f d)) fun ds => mForL g b (D.frzL ds)
theorem walks_list {K : PySem.W.Frag} {F : Hp} {a : Addr} {ds : List D} {vs : List V} (h : FzL K T F ds vs) : Walks K T (Itl K a) F ds (fun H => SqL K H a vs ∧ ∀ xs, SqL K H a xs → xs = vs) where
  stop := fun H q => ⟨vs, q.1, by rw [h.length]; exact Nat.le_refl _⟩
  go := fun i H q hi => ⟨vs, vs[i]'(by rw [← h.length]; exact hi), q.1, List.getElem?_eq_getElem _⟩
  yld := fun i H x H' d q e y => by
    obtain ⟨rfl, y⟩ := y
    obtain ⟨v, e1, e2⟩ := h.get e
    have := y vs q.1
    rw [e1] at this
    cases this
    exact ⟨e2, rfl⟩
theorem walks_list' {K : PySem.W.Frag} {F : Hp} {a : Addr} {ds : List D} {vs : List V} (h : FzL K T F ds vs) : Walks K T (Itl K a) F ds (fun H => SqL K H a vs) where
  stop := fun H q => ⟨vs, q, by rw [h.length]; exact Nat.le_refl _⟩
  go := fun i H q hi => ⟨vs, vs[i]'(by rw [← h.length]; exact hi), q, List.getElem?_eq_getElem _⟩
  yld := fun i H x H' d q e y => by
    obtain ⟨rfl, y⟩ := y
    obtain ⟨v, e1, e2⟩ := h.get e
    have := y vs q
    rw [e1] at this
    cases this
    exact ⟨e2, rfl⟩
theorem walks_tup {K : PySem.W.Frag} {F : Hp} {a : Addr} {ds : List D} {vs : List V} (h : FzL K T F ds vs) : Walks K T (Itt K a) F ds (fun H => SqT K H a vs) where
  stop := fun H q => ⟨vs, q, by rw [h.length]; exact Nat.le_refl _⟩
  go := fun i H q hi => ⟨vs, vs[i]'(by rw [← h.length]; exact hi), q, List.getElem?_eq_getElem _⟩
  yld := fun i H x H' d q e y => by
    obtain ⟨rfl, y⟩ := y
    obtain ⟨v, e1, e2⟩ := h.get e
    have := y vs q
    rw [e1] at this
    cases this
    exact ⟨e2, rfl⟩
theorem qs_for_list {tg src : Expr} {body : List Stmt} {ms : M D} {g : Gt} {sl : List Nat} {pg : Bool} {mb : M Fl} (hp : PassesOwn (model X.prog X.w) X.A X.env X.xe) (hc : X.calm = true) (hsrc : QE T io X W p src ms) (hgt : QG T io X sl pg tg g) (hb : QSs T io X W body mb)
    (hs : ∀ x, foldedSetIterable src X.env x = pure x := by intro _; rfl) : QS T io X W (.For tg src body [] pos) (mForS lst? ms g mb) :=
  fun G gg => PS.imp (ps_for hp hc (pi_list (hsrc G gg)) (hgt G gg) (hb G gg) hs) fun B σ H ⟨F, r, t, tv, h1, h2⟩ => by
    refine ⟨F, r, t, tv, h1, (sat_bind h2).mono (fun d r1 q v F1 H1 s1 _ h3 => ?_) fun _ _ q => q.toP⟩
    obtain ⟨ds, e, q⟩ := sat_opt (sat_bind q)
    obtain ⟨o, rfl⟩ := lst?_eq e
    obtain ⟨F2, s2, h4, fz⟩ := h3.freeze
    cases fz with
    | @node a k vs _ hn hl =>
      have hq : SqL X.K F2 a vs := hn.2
      refine ⟨a, rfl, ⟨vs, h4.sub.seq hq⟩, ?_⟩
      exact for_walks (tg := tg) (gt := tG X.K T G sl pg g) (tb := tS X.K T G W mb) (body := body) (walks_list' hl) (fun F' H' s3 s4 => s4.seq (s3.seq hq)) h4.drop (q.mono (fun _ _ q => q.trans (s1.trans s2)) fun _ _ q => q.trans (s1.trans s2))
theorem qs_for_tup {tg src : Expr} {body : List Stmt} {ms : M D} {g : Gt} {sl : List Nat} {pg : Bool} {mb : M Fl} (hp : PassesOwn (model X.prog X.w) X.A X.env X.xe) (hc : X.calm = true) (hsrc : QE T io X W p src ms) (hgt : QG T io X sl pg tg g) (hb : QSs T io X W body mb)
    (hs : ∀ x, foldedSetIterable src X.env x = pure x := by intro _; rfl) : QS T io X W (.For tg src body [] pos) (mForS tupl? ms g mb) :=
  fun G gg => PS.imp (ps_for hp hc (pi_tup (hsrc G gg)) (hgt G gg) (hb G gg) hs) fun B σ H ⟨F, r, t, tv, h1, h2⟩ => by
    refine ⟨F, r, t, tv, h1, (sat_bind h2).mono (fun d r1 q v F1 H1 s1 _ h3 => ?_) fun _ _ q => q.toP⟩
    obtain ⟨ds, e, q⟩ := sat_opt (sat_bind q)
    obtain ⟨o, rfl⟩ := tupl?_eq e
    obtain ⟨F2, s2, h4, fz⟩ := h3.freeze
    cases fz with
    | @node a k vs _ hn hl =>
      have hq : SqT X.K F2 a vs := hn.2
      refine ⟨a, rfl, ⟨vs, SqT.mono h4.sub hq⟩, ?_⟩
      exact for_walks (tg := tg) (gt := tG X.K T G sl pg g) (tb := tS X.K T G W mb) (body := body) (walks_tup hl) (fun F' H' s3 s4 => SqT.mono s4 (SqT.mono s3 hq)) h4.drop (q.mono (fun _ _ q => q.trans (s1.trans s2)) fun _ _ q => q.trans (s1.trans s2))

/-! ### raise, try -/
def mRaise (c : String) : M Fl := fun r => .ex c r
theorem qs_raise {e : Expr} {c : String} {C : Addr} (hc : X.calm = true) (tk : Takes X W) (hT : T c = some C) (he : PMk X e (fun _ H Q => Q (.ref C) none H)) : QS T io X W (.Raise (some e) none pos) (mRaise c) :=
  fun G g => PS.imp (ps_raise hc tk he) fun B σ H ⟨F, r, t, tv, h1, h2⟩ => h2 C σ F H hT (Same.refl _) h1
def mCalm (s : M Fl) : M Fl := fun r => match s r with
  | .ex _ _ => .no
  | x => x
def mTry (b : M Fl) (catch_ : String → Bool) (s : M Fl) : M Fl := fun r => match b r with
  | .ex c r' => if catch_ c = true then mCalm s r' else .ex c r'
  | x => x
/-- the suite's wish: it raises nothing -/
abbrev W0 : WX := fun _ _ _ _ => False
theorem calm_sat {s : M Fl} {r : VS} {ok : Fl → VS → Prop} {ex ex' : String → VS → Prop} (h : (mCalm s r).sat ok ex) : (s r).sat ok ex' := by
  unfold mCalm at h
  cases e : s r with
  | ok a r' => rw [e] at h; exact h
  | ex c r' => rw [e] at h; exact h.elim
  | no => rw [e] at h; exact h
/-- what an except clause over the class c takes -/
def Catches (K : PySem.W.Frag) (T : String → Option Addr) (c : Value) (f : String → Bool) : Prop := ∀ x C, T x = some C → PySem.W.exmOne K (.ref C) c = some (f x)
theorem qs_try {body suite : List Stmt} {b0 : Stmt} {x : Str} {c : Value} {np pos' : Pos} {f : String → Bool} {mb ms : M Fl} (hs : X.stack = X.env :: X.outer) (hf : X.env.frame = some X.env.locals) (hc : Names X x c) (tk : Takes X W) (hk : Catches X.K T c f)
    (hb : ∀ (W : WX) (pn : List (Addr × Obj)) (xe : Value → Shared → Prop), Takes (X.tr pn xe) W → PassesOwn (model X.prog X.w) X.A X.env xe → QSs T io (X.tr pn xe) W body mb)
    (hsu : ∀ (a : Addr) (oe : Obj) (cls : Value) (d : Option Addr) (pn : List (Addr × Obj)), Zc cls d oe → (∃ vs, oe.data = .fields vs) → QSs T io (X.suite a ((a, oe) :: pn)) W0 (b0 :: suite) ms) :
    QS T io X W (.Try body [.ExceptHandler (some (.Name x np)) none (b0 :: suite) pos'] [] [] pos) (mTry mb f ms) :=
  fun G g => PS.imp (ps_try_only (tb := fun W => tS X.K T G W mb) (ts := fun _ _ _ => tS X.K T G W0 ms) hs hf hc tk (fun W pn xe tk po => hb W pn xe tk po G g) (fun a oe cls d pn hz hd => hsu a oe cls d pn hz hd G g)) fun B σ H ⟨F, r, t, tv, h1, h2⟩ => by
    refine ⟨F, r, t, tv, h1, ?_⟩
    unfold mTry at h2
    cases e : mb r with
    | ok a r' => rw [e] at h2; exact h2
    | no => rw [e] at h2; exact h2
    | ex c r' =>
      rw [e] at h2
      intro C σ' F' H' hT s1 h3
      refine ⟨f c, hk c C hT, fun hb a ha => ?_, fun hb => ?_⟩
      · dsimp only at h2
        rw [hb, if_pos rfl] at h2
        exact ⟨F', r', t, tv, h3, (calm_sat h2).mono (fun _ _ q => q.trans s1) fun _ _ q => q⟩
      · dsimp only at h2
        rw [hb, if_neg Bool.false_ne_true] at h2
        exact h2 C σ' F' H' hT s1 h3

/-! ### functions -/
/-- what a def does to plain data: the answer, and the data behind the arguments that it may turn -/
inductive RF where
  | ok (d : D) (outs : List D)
  | ex (c : String) (outs : List D)
  | no
abbrev Fn := List D → RF
def outs? (r : VS) : List Nat → Option (List D)
  | [] => some []
  | i :: is => match slot? i r, outs? r is with
    | some d, some ds => some (d :: ds)
    | _, _ => none
/-- n names, the arguments first; io: the parameters whose objects may be turned -/
def fnM (n : Nat) (io : List Nat) (body : M Fl) : Fn := fun args => match body (args.map some ++ List.replicate (n - args.length) none) with
  | .ok (.rt d) r => (match outs? r io with | some o => .ok d o | none => .no)
  | .ok .nx r => (match outs? r io with | some o => .ok .non o | none => .no)
  | .ex c r => (match outs? r io with | some o => .ex c o | none => .no)
  | _ => .no
/-- behind a call: the frozen part may have grown, what is not handed over stands -/
structure Aft (F H : Hp) (P : Ft) (F' H' : Hp) (P' : Ft) : Prop where
  fr : Same F F'
  sub : Same F' H'
  keep : ∀ a o, H a = some o → ¬ P a → H' a = some o
  own : ∀ a, P' a → P a ∨ H a = none
  frz : ∀ a o, F' a = some o → F a = some o ∨ P a ∨ H a = none
def spV (K : PySem.W.Frag) (T : String → Option Addr) (np : Nat) (io : List Nat) (m : Fn) : Sp := fun vs H Q E => ∃ F ds P, OwL K T F H ds vs P ∧ Same F H ∧ ds.length = np ∧ match m ds with
  | .ok d outs => ∀ v F' H' vo P', OwL K T F' H' (outs ++ [d]) (vo ++ [v]) P' → Aft F H P F' H' P' → (vo.map some = io.map fun i => vs[i]?) → Q v H'
  | .ex c outs => ∀ C F' H' vo P', T c = some C → OwL K T F' H' outs vo P' → Aft F H P F' H' P' → (vo.map some = io.map fun i => vs[i]?) → E (.ref C) none H'
  | .no => False

theorem OwS.start {K : PySem.W.Frag} {F H : Hp} : ∀ {ds : List D} {vs : List V} {P : Ft} (n : Nat), OwL K T F H ds vs P → OwS K T F H (ds.map Option.some ++ List.replicate n Option.none) (vs.map Option.some ++ List.replicate n Option.none) P
  | [], _, P, n, h => by
    cases h with
    | nil e =>
      induction n with
      | zero => exact .nil e
      | succ n ih => simpa [List.replicate_succ] using OwS.none ih
  | d :: ds, _, P, n, h => by
    cases h with
    | cons o h dj un => exact .some o (OwS.start n h) dj un
theorem Rl.takes {K : PySem.W.Frag} {G : Gm} {F H : Hp} {σ : L2.St} : ∀ {io : List Nat} {r : VS} {t : List D} {tv : List V} {o : List D}, io.Nodup → Rl K T G F r t σ tv H → outs? r io = some o →
    ∃ vo r', vo.map some = io.map (fun i => (σ[i]?).join) ∧ Rl K T G F r' (o ++ t) σ (vo ++ tv) H ∧ ∀ j, j ∉ io → r'[j]? = r[j]?
  | [], r, t, tv, o, _, h, e => by cases e; exact ⟨[], r, rfl, h, fun _ _ => rfl⟩
  | i :: is, r, t, tv, o, nd, h, e => by
    simp only [outs?] at e
    cases e1 : slot? i r with
    | none => rw [e1] at e; cases e
    | some d =>
      rw [e1] at e
      cases e2 : outs? r is with
      | none => rw [e2] at e; cases e
      | some ds =>
        rw [e2] at e
        cases e
        obtain ⟨vo, r', h1, h2, h3⟩ := Rl.takes (List.nodup_cons.mp nd).2 h e2
        have e3 : r'[i]? = some (some d) := by rw [h3 i (List.nodup_cons.mp nd).1]; exact slot?_eq e1
        obtain ⟨v, ev, h4⟩ := h2.take e3
        refine ⟨v :: vo, r'.set i none, by simp [h1, ev], h4, fun j hj => ?_⟩
        rw [List.getElem?_set_ne (fun z => hj (by simp [z])), h3 j (fun z => hj (List.mem_cons_of_mem _ z))]
/-- THE RULE: a def keeps what its data function says -/
theorem fn_ok {io : List Nat} {P : Program} {w : World} {K : PySem.W.Frag} {mg : Str → Option Value} {base : Heap} {x qual : Str} {st : Stmt} {f : Addr} {fd : FuncData} {N ps : List Str} {k n : Nat} {body : M Fl} (F : Fun K x qual st f fd) (S : FnScope N ps (defScope st)) (hn : N.length = n) (hio : io.Nodup) (hlt : ∀ i ∈ io, i < ps.length)
    (hb : ∀ (cdv : Value) (A : Around) (outer : List Env) (s : Shared) (H : Hp) (E : XK), Room k (A.deeper (PyProof.Rows.envOfC qual (defScope st) s.heap.objs.size f cdv)) →
      QSs T ⟨io, []⟩ (cxOf (L2.CX P w) P w K mg base N qual (defScope st) f cdv A outer s H E) (fun cls d _ H => E cls d H) (defBody st) body) :
    FnOk P w K mg base (L2.CX P w) (k + 1) f fd ps (spV K T ps.length io (fnM n io body)) := by
  refine F.okX S (fun vs H Q E ⟨F0, ds, P0, h1, h2, h3, h4⟩ => by rw [← h1.length, h3]) fun cdv A outer s H vs Q E hr hsp => ?_
  obtain ⟨F0, ds, P0, h1, h2, h3, h4⟩ := hsp
  have hlv : vs.length = ps.length := by rw [← h1.length, h3]
  let G : Gm := ⟨H, P0, F0, fun i => if i ∈ io then vs[i]? else none⟩
  have hpin : Pins ⟨io, []⟩ G := by
    refine ⟨fun j v e => ?_, fun q hq => nomatch hq⟩
    by_cases z : j ∈ io
    · exact z
    · have e' : (if j ∈ io then vs[j]? else none) = some v := e
      rw [if_neg z] at e'; cases e'
  refine ⟨_, hb cdv A outer s H E hr G hpin, F0, ds.map some ++ List.replicate (n - ds.length) none, [], [], ⟨⟨P0, fun _ => False, ?_, .nil fun _ z => z, fun _ _ z => z, fun a z => z.elim .inl False.elim⟩, h2, fun a o e _ => e, fun a o e => .inl e, Same.refl _, fun i v e => ?_⟩, ?_⟩
  · unfold L2.start
    rw [hn, ← h1.length]
    exact OwS.start _ h1
  · have z : i ∈ io := hpin.1 i v e
    have e' : (if i ∈ io then vs[i]? else none) = some v := e
    rw [if_pos z] at e'
    unfold L2.start
    rw [List.getElem?_append_left (by simpa using (List.getElem?_eq_some_iff.mp e').1), List.getElem?_map, e']
    rfl
  · -- the ends
    have fin : ∀ {r : VS} {d : D} {v : V} {o : List D} {σ' : L2.St} {F' H' : Hp}, outs? r io = some o → Rl K T G F' r [d] σ' [v] H' → ∃ vo P', OwL K T F' H' (o ++ [d]) (vo ++ [v]) P' ∧ Aft F0 H P0 F' H' P' ∧ vo.map some = io.map fun i => vs[i]? := by
      intro r d v o σ' F' H' e h
      obtain ⟨vo, r', e1, q, _⟩ := Rl.takes hio h e
      obtain ⟨⟨Ps, Pt, g1, g2, dj, hp⟩, b1, b2, b3, b4, b5⟩ := q
      refine ⟨vo, Pt, g2, ⟨b4, b1, b2, fun a z => hp a (.inr z), b3⟩, ?_⟩
      rw [e1]
      refine List.map_congr_left fun i hi => ?_
      have e2 : G.pin i = vs[i]? := if_pos hi
      have hi2 : i < vs.length := by rw [hlv]; exact hlt i hi
      rw [List.getElem?_eq_getElem hi2] at e2 ⊢
      rw [b5 i _ e2]; rfl
    have finE : ∀ {r : VS} {o : List D} {σ' : L2.St} {F' H' : Hp}, outs? r io = some o → Rl K T G F' r [] σ' [] H' → ∃ vo P', OwL K T F' H' o vo P' ∧ Aft F0 H P0 F' H' P' ∧ vo.map some = io.map fun i => vs[i]? := by
      intro r o σ' F' H' e h
      obtain ⟨vo, r', e1, q, _⟩ := Rl.takes hio h e
      obtain ⟨⟨Ps, Pt, g1, g2, dj, hp⟩, b1, b2, b3, b4, b5⟩ := q
      rw [List.append_nil, List.append_nil] at g2
      refine ⟨vo, Pt, g2, ⟨b4, b1, b2, fun a z => hp a (.inr z), b3⟩, ?_⟩
      rw [e1]
      refine List.map_congr_left fun i hi => ?_
      have e2 : G.pin i = vs[i]? := if_pos hi
      have hi2 : i < vs.length := by rw [hlv]; exact hlt i hi
      rw [List.getElem?_eq_getElem hi2] at e2 ⊢
      rw [b5 i _ e2]; rfl
    unfold fnM at h4
    cases e : body (ds.map some ++ List.replicate (n - ds.length) none) with
    | no => rw [e] at h4; exact h4
    | ex c r =>
      rw [e] at h4
      dsimp only at h4
      cases e2 : outs? r io with
      | none => rw [e2] at h4; exact h4.elim
      | some o =>
        rw [e2] at h4
        intro C σ' F' H' hT s1 h5
        obtain ⟨vo, P', g1, g2, g3⟩ := finE e2 h5
        exact h4 C F' H' vo P' hT g1 g2 g3
    | ok f r =>
      rw [e] at h4
      intro σ' F' H' s1
      cases f with
      | bk => exact h4.elim
      | ct => exact h4.elim
      | nx =>
        dsimp only at h4
        cases e2 : outs? r io with
        | none => rw [e2] at h4; exact h4.elim
        | some o =>
          rw [e2] at h4
          intro h5
          obtain ⟨vo, P', g1, g2, g3⟩ := fin (d := .non) (v := .non) e2 (h5.push (.leaf rfl))
          exact h4 .non F' H' vo P' g1 g2 g3
      | rt d =>
        dsimp only at h4
        cases e2 : outs? r io with
        | none => rw [e2] at h4; exact h4.elim
        | some o =>
          rw [e2] at h4
          intro v h5
          obtain ⟨vo, P', g1, g2, g3⟩ := fin e2 h5
          exact h4 v F' H' vo P' g1 g2 g3

/-! ### calls -/
/-- the temporaries on top are handed over; the caller's state behind the call -/
theorem Rl.split {K : PySem.W.Frag} {G : Gm} {F H : Hp} {r : VS} {t : List D} {σ : L2.St} {tv : List V} {ds : List D} {vs : List V} (hl : ds.length = vs.length) (h : Rl K T G F r (ds ++ t) σ (vs ++ tv) H) :
    ∃ A, OwL K T F H ds vs A ∧ ∀ (F' H' : Hp) (os : List D) (vo : List V) (P' : Ft), OwL K T F' H' os vo P' → Aft F H A F' H' P' → Rl K T G F' r (os ++ t) σ (vo ++ tv) H' := by
  obtain ⟨⟨Ps, Pt, h1, h2, dj, hp⟩, b1, b2, b3, b4, b5⟩ := h
  obtain ⟨A, B, g1, g2, g3, g4⟩ := OwL.cut hl h2
  refine ⟨A, g1, ?_⟩
  rintro F' H' os vo P' q1 ⟨a1, a2, a3, a4, a5⟩
  have st : ∀ {Q : Ft}, (∀ a, Q a → F a = none ∧ ∃ o, H a = some o) → (∀ a, Q a → ¬ A a) → (∀ a, Q a → H' a = H a) ∧ ∀ a, Q a → F' a = none := fun {Q} q0 q1 => by
    refine ⟨fun a z => ?_, fun a z => ?_⟩
    · obtain ⟨_, o, e⟩ := q0 a z
      rw [e]; exact a3 a o e (q1 a z)
    · obtain ⟨e1, o, e2⟩ := q0 a z
      cases e : F' a with
      | none => rfl
      | some u =>
        rcases a5 a u e with w | w | w
        · rw [e1] at w; cases w
        · exact (q1 a z w).elim
        · rw [e2] at w; cases w
  obtain ⟨s1, s2⟩ := st (Q := Ps) (fun a z => h1.at z) fun a z w => dj a z ((g4 a).mpr (.inl w))
  obtain ⟨s3, s4⟩ := st (Q := B) (fun a z => g2.at z) fun a z w => g3 a w z
  refine ⟨⟨Ps, fun a => P' a ∨ B a, h1.frame a1 s1 s2, OwL.join q1 (g2.frame a1 s3 s4) (fun a z w => ?_) fun _ => Iff.rfl, fun a z w => ?_, fun a z => ?_⟩, a2, fun a o e n => ?_, fun a o e => ?_, b4.trans a1, b5⟩
  · rcases a4 a z with y | y
    · exact g3 a y w
    · obtain ⟨_, o, e⟩ := g2.at w
      rw [e] at y; cases y
  · rcases w with w | w
    · rcases a4 a w with y | y
      · exact dj a z ((g4 a).mpr (.inl y))
      · obtain ⟨_, o, e⟩ := h1.at z
        rw [e] at y; cases y
    · exact dj a z ((g4 a).mpr (.inr w))
  · rcases z with z | z | z
    · exact hp a (.inl z)
    · rcases a4 a z with y | y
      · exact hp a (.inr ((g4 a).mpr (.inl y)))
      · by_cases q : G.P0 a
        · exact .inl q
        · refine .inr ?_
          cases e : G.H0 a with
          | none => rfl
          | some o => rw [b2 a o e q] at y; cases y
    · exact hp a (.inr ((g4 a).mpr (.inr z)))
  · refine a3 a o (b2 a o e n) fun z => ?_
    rcases hp a (.inr ((g4 a).mpr (.inl z))) with y | y
    · exact n y
    · rw [e] at y; cases y
  · rcases a5 a o e with y | y | y
    · exact b3 a o y
    · rcases hp a (.inr ((g4 a).mpr (.inl y))) with z | z
      · exact .inr (.inl z)
      · exact .inr (.inr z)
    · by_cases q : G.P0 a
      · exact .inr (.inl q)
      · refine .inr (.inr ?_)
        cases e2 : G.H0 a with
        | none => rfl
        | some o => rw [b2 a o e2 q] at y; cases y
/-- arguments, some of them given up by their slots: bk tells which -/
def tAI (K : PySem.W.Frag) (T : String → Option Addr) (G : Gm) (W : WX) (p : Bool) (bk : List (Option Nat)) (m : M (List D)) : TA := fun σ H Q => ∃ F r t tv, Rl K T G F r t σ tv H ∧
  (m r).sat (fun ds r' => ∀ vs F' H', Same F F' → (p = true → Same H H') → ds.length = vs.length → ds.length = bk.length → (∀ (j i : Nat), bk[j]? = some (some i) → ∃ v, vs[j]? = some v ∧ σ[i]? = some (some v)) → Rl K T G F' r' (ds ++ t) σ (vs ++ tv) H' → Q vs H') (exP K T G W σ t tv F)
def QAI (T : String → Option Addr) (io : Io) (X : Cx) (W : WX) (p : Bool) (bk : List (Option Nat)) (es : List Expr) (m : M (List D)) : Prop := ∀ G, Pins io G → PA X es (tAI X.K T G W p bk m)
theorem qai_nil : QAI T io X W true [] [] mNil := fun G _ => PA.imp pa_nil fun σ H Q ⟨F, r, t, tv, h1, h2⟩ => h2 [] F H (Same.refl _) (fun _ => Same.refl _) rfl rfl (fun j i e => by simp at e) h1
theorem qai_cons {e : Expr} {es : List Expr} {bk : List (Option Nat)} {a : M D} {b : M (List D)} (ha : QE T io X W p1 e a) (hb : QAI T io X W p2 bk es b) (hs : starEach (e :: es) X.env = (false, eval e X.env) :: starEach es X.env := by rfl) : QAI T io X W (p1 && p2) (none :: bk) (e :: es) (mCons a b) :=
  fun G g => PA.imp (pa_cons (ha G g) (hb G g) hs) fun σ H Q ⟨F, r, t, tv, h1, h2⟩ => by
    refine ⟨F, r, t, tv, h1, (sat_bind h2).mono (fun d r1 q v F1 H1 s1 s2 h3 => ?_) fun _ _ q => q⟩
    refine ⟨F1, r1, d :: t, v :: tv, h3, (sat_bind q).mono (fun ds r2 q vs F2 H2 s3 s4 hl hlb hj h4 => ?_) fun c r' q => ?_⟩
    · refine q (v :: vs) F2 H2 (s1.trans s3) (fun z => (s2 (andL z)).trans (s4 (andR z))) (by simp [hl]) (by simp [hlb]) (fun j i e => ?_) (Rl.lift hl h4)
      cases j with
      | zero => simp at e
      | succ j => simpa using hj j i (by simpa using e)
    · exact fun C F2 H2 z s3 h4 => q C F2 H2 z (s1.trans s3) h4.drop
theorem qai_io {i : Nat} {x : Str} {es : List Expr} {bk : List (Option Nat)} {b : M (List D)} (hN : X.N[i]? = some x) (hv : Vis X.env.scope x) (hb : QAI T io X W p bk es b) (hd : (x == ("__debug__" : Str)) = false := by decide) (hcd : (x == ("__classdict__" : Str)) = false := by decide)
    (hs : starEach (.Name x pos :: es) X.env = (false, eval (.Name x pos) X.env) :: starEach es X.env := by rfl) : QAI T io X W p (some i :: bk) (.Name x pos :: es) (mCons (mMove i) b) :=
  fun G g => PA.imp (pa_cons (pe_var hN hv hd hcd) (hb G g) hs) fun σ H Q ⟨F, r, t, tv, h1, h2⟩ => by
    have q := sat_bind h2
    unfold mMove at q
    cases e : slot? i r with
    | none => simp only [e] at q; exact q.elim
    | some d =>
      simp only [e] at q
      obtain ⟨v, ev, h3⟩ := h1.take (slot?_eq e)
      refine ⟨v, ev, F, r.set i none, d :: t, v :: tv, h3, (sat_bind q).mono (fun ds r2 q vs F2 H2 s3 s4 hl hlb hj h4 => ?_) fun c r' q => ?_⟩
      · refine q (v :: vs) F2 H2 s3 s4 (by simp [hl]) (by simp [hlb]) (fun j i' e => ?_) (Rl.lift hl h4)
        cases j with
        | zero =>
          simp at e
          subst e
          exact ⟨v, rfl, ev⟩
        | succ j => simpa using hj j i' (by simpa using e)
      · exact fun C F2 H2 z s3 h4 => q C F2 H2 z s3 h4.drop
def putB (r : VS) : List (Option Nat) → List D → Option VS
  | [], [] => some r
  | none :: bs, _ :: os => putB r bs os
  | some i :: bs, o :: os => if i < r.length then putB (r.set i (some o)) bs os else none
  | _, _ => none
/-- what a call does: io, the callee's parameters that it may turn; bk, which slots gave their data -/
def mCall (fn : Fn) (cio : List Nat) (bk : List (Option Nat)) (args : M (List D)) : M D := M.bind args fun ds r => match fn ds with
  | .ok d os => (match putB r (cio.map fun j => (bk[j]?).join) os with | some r' => .ok d r' | none => .no)
  | .ex c os => (match putB r (cio.map fun j => (bk[j]?).join) os with | some r' => .ex c r' | none => .no)
  | .no => .no
theorem Rl.backs {K : PySem.W.Frag} {G : Gm} {F H : Hp} {σ : L2.St} {t : List D} {tv : List V} : ∀ {bs : List (Option Nat)} {os : List D} {vo : List V} {r r' : VS}, putB r bs os = some r' → os.length = vo.length → (∀ (j i : Nat), bs[j]? = some (some i) → ∃ v, vo[j]? = some v ∧ σ[i]? = some (some v)) →
    Rl K T G F r (os ++ t) σ (vo ++ tv) H → Rl K T G F r' t σ tv H
  | [], [], [], r, r', e, _, _, h => by cases e; exact h
  | [], _ :: _, _, _, _, e, _, _, _ => by cases e
  | none :: bs, [], _, _, _, e, _, _, _ => by cases e
  | some i :: bs, [], _, _, _, e, _, _, _ => by cases e
  | [], [], _ :: _, _, _, _, hl, _, _ => by simp at hl
  | none :: bs, o :: os, [], _, _, _, hl, _, _ => by simp at hl
  | some i :: bs, o :: os, [], _, _, _, hl, _, _ => by simp at hl
  | none :: bs, o :: os, v :: vo, r, r', e, hl, hj, h => Rl.backs (bs := bs) e (by simpa using hl) (fun j i q => by simpa using hj (j + 1) i (by simpa using q)) h.drop
  | some i :: bs, o :: os, v :: vo, r, r', e, hl, hj, h => by
    simp only [putB] at e
    split at e
    · rename_i hi
      obtain ⟨w, e1, e2⟩ := hj 0 i rfl
      have e1 : v = w := by simpa using e1
      subst e1
      have h2 := h.put hi fun w ew => by
        have := h.pin i w ew
        rw [e2] at this
        exact Option.some.inj (Option.some.inj this)
      rw [set_same e2] at h2
      exact Rl.backs e (by simpa using hl) (fun j i q => by simpa using hj (j + 1) i (by simpa using q)) h2
    · cases e
theorem map_some_get {io : List Nat} {vo vs : List V} (e : vo.map some = io.map fun i => vs[i]?) (k : Nat) : vo[k]? = (io[k]?).bind fun i => vs[i]? := by
  have := congrArg (fun l => (l[k]?).join) e
  simp only [List.getElem?_map] at this
  cases e1 : vo[k]? with
  | none =>
    rw [e1] at this
    cases e2 : io[k]? with
    | none => rfl
    | some i => rw [e2] at this; simpa using this
  | some v =>
    rw [e1] at this
    cases e2 : io[k]? with
    | none => rw [e2] at this; simp at this
    | some i => rw [e2] at this; simpa using this
/-- the promise of a callee serves the caller -/
theorem call_imp {K : PySem.W.Frag} {G : Gm} {F H : Hp} {r : VS} {t : List D} {σ : L2.St} {tv : List V} {ds : List D} {vs : List V} {fn : Fn} {cio : List Nat} {bk : List (Option Nat)} {np : Nat} {Q : VK}
    (hl : ds.length = vs.length) (hn : ds.length = np) (hj : ∀ (j i : Nat), bk[j]? = some (some i) → ∃ v, vs[j]? = some v ∧ σ[i]? = some (some v)) (h : Rl K T G F r (ds ++ t) σ (vs ++ tv) H)
    (q : (mCall fn cio bk (M.ret ds) r).sat (fun d r' => ∀ v F' H', Same F F' → Rl K T G F' r' (d :: t) σ (v :: tv) H' → Q v H') (exP K T G W σ t tv F)) : spV K T np cio fn vs H Q (WE W σ) := by
  have hjs : ∀ {os : List D} {vo : List V} (k i : Nat), vo.map some = cio.map (fun i => vs[i]?) → (cio.map fun j => (bk[j]?).join)[k]? = some (some i) → ∃ v, vo[k]? = some v ∧ σ[i]? = some (some v) := by
    intro os vo k i e e2
    rw [List.getElem?_map] at e2
    cases e3 : cio[k]? with
    | none => rw [e3] at e2; cases e2
    | some j =>
      rw [e3] at e2
      simp only [Option.map_some, Option.some.injEq] at e2
      cases e4 : bk[j]? with
      | none => rw [e4] at e2; cases e2
      | some o =>
        rw [e4] at e2
        simp only [Option.join_some] at e2
        subst e2
        obtain ⟨v, q1, q2⟩ := hj j i e4
        refine ⟨v, ?_, q2⟩
        rw [map_some_get e, e3]
        exact q1
  have q := sat_bind q
  obtain ⟨A, g1, after⟩ := Rl.split hl h
  refine ⟨F, ds, A, g1, h.sub, hn, ?_⟩
  have q : (match fn ds with
    | .ok d os => (match putB r (cio.map fun j => (bk[j]?).join) os with | some r' => R.ok d r' | none => .no)
    | .ex c os => (match putB r (cio.map fun j => (bk[j]?).join) os with | some r' => .ex c r' | none => .no)
    | .no => .no).sat (fun d r' => ∀ v F' H', Same F F' → Rl K T G F' r' (d :: t) σ (v :: tv) H' → Q v H') (exP K T G W σ t tv F) := q
  cases e : fn ds with
  | no => rw [e] at q; exact q
  | ok d os =>
    rw [e] at q
    dsimp only at q
    cases e2 : putB r (cio.map fun j => (bk[j]?).join) os with
    | none => rw [e2] at q; exact q.elim
    | some r' =>
      rw [e2] at q
      intro v F' H' vo P' w1 w2 w3
      have hlo : os.length = vo.length := by
        have := w1.length
        simpa using this
      have h5 := after F' H' _ _ P' w1 w2
      rw [List.append_assoc, List.append_assoc] at h5
      exact q v F' H' w2.fr (Rl.backs e2 hlo (fun k i e => hjs (os := os) k i w3 e) h5)
  | ex c os =>
    rw [e] at q
    dsimp only at q
    cases e2 : putB r (cio.map fun j => (bk[j]?).join) os with
    | none => rw [e2] at q; exact q.elim
    | some r' =>
      rw [e2] at q
      intro C F' H' vo P' hT w1 w2 w3
      have h5 := after F' H' _ _ P' w1 w2
      exact q C F' H' hT w2.fr (Rl.backs e2 w1.length (fun k i e => hjs (os := os) k i w3 e) h5)
def tCallS0 (sp : Sp) (E : L2.St → XK) : TE := fun σ H Q => sp [] H Q (E σ)
theorem pe_callS0 {x : Str} {pp : Pos} {k : Nat} {f : Addr} {fd : FuncData} {ps : List Str} {sp : Sp} {CX : CXT} {E : L2.St → XK} (F : FnOk X.prog X.w X.K X.mg X.base CX k f fd ps sp) (hr : Room k X.A) (hg : Gl X x) (hm : X.mg x = some (.ref f)) (hk : PySem.W.keepIn X.K (.ref f) = true) (hb : Binds X.K fd ps []) (hx : ∀ σ, PassesAt CX X σ (E σ))
    (hdb : (x == ("__debug__" : Str)) = false := by decide) : PE X (.Call (.Name x pp) [] [] pos) (tCallS0 sp E) := by
  refine ⟨fun pins s σ H Q I h => ?_⟩
  refine wpAny_Call_Name_kw (ld_glob I hg hm ?_ hdb)
  exact PySem.W.callWith_K0 I.kIn hk (run_fnS (us := []) F hr hb (hx σ) I .nil h)
/-- f(..) -/
theorem qe_call {e : Expr} {es : List Expr} {x : Str} {pp : Pos} {k : Nat} {f : Addr} {fd : FuncData} {ps : List Str} {np : Nat} {fn : Fn} {cio : List Nat} {bk : List (Option Nat)} {a : M (List D)}
    (F : FnOk X.prog X.w X.K X.mg X.base (L2.CX X.prog X.w) k f fd ps (spV X.K T np cio fn)) (hr : Room k X.A) (hg : Gl X x) (hm : X.mg x = some (.ref f)) (hk : PySem.W.keepIn X.K (.ref f) = true) (hb : Binds X.K fd ps []) (tk : Takes X W) (hnp : bk.length = np)
    (ha : QAI T io X W p bk (e :: es) a) (hdb : (x == ("__debug__" : Str)) = false := by decide) (he : starEach (e :: es) X.env = (false, eval e X.env) :: starEach es X.env := by rfl) (hpl : (backTo pos (starEach es X.env)).any (·.1) = false := by rfl) :
    QE T io X W false (.Call (.Name x pp) (e :: es) [] pos) (mCall fn cio bk a) := fun G g => PE.imp (pe_callS F hr hg hm hk hb (fun σ => passAt tk σ) (ha G g) hdb he hpl) fun σ H Q ⟨F0, r, t, tv, h1, h2⟩ => by
  refine ⟨F0, r, t, tv, h1, (sat_bind h2).mono (fun ds r1 q vs F1 H1 s1 _ hl hlb hj h3 => ?_) fun _ _ q => q⟩
  refine call_imp hl (hlb.trans hnp) hj h3 (R.sat.mono (x := mCall fn cio bk (M.ret ds) r1) q (fun d r' q v F' H' s2 h4 => q v F' H' (s1.trans s2) (fun z => nomatch z) h4) fun _ _ q => q.trans s1)
/-- f() -/
theorem qe_call0 {x : Str} {pp : Pos} {k : Nat} {f : Addr} {fd : FuncData} {ps : List Str} {fn : Fn}
    (F : FnOk X.prog X.w X.K X.mg X.base (L2.CX X.prog X.w) k f fd ps (spV X.K T 0 [] fn)) (hr : Room k X.A) (hg : Gl X x) (hm : X.mg x = some (.ref f)) (hk : PySem.W.keepIn X.K (.ref f) = true) (hb : Binds X.K fd ps []) (tk : Takes X W)
    (hdb : (x == ("__debug__" : Str)) = false := by decide) :
    QE T io X W false (.Call (.Name x pp) [] [] pos) (mCall fn [] [] mNil) := fun G g => PE.imp (pe_callS0 F hr hg hm hk hb (fun σ => passAt tk σ) hdb) fun σ H Q ⟨F0, r, t, tv, h1, h2⟩ => by
  refine call_imp (ds := []) (vs := []) (bk := []) (cio := []) (t := t) (tv := tv) (r := r) rfl rfl (fun j i e => by simp at e) h1 (R.sat.mono (x := mCall fn [] [] mNil r) h2 (fun d r' q v F' H' s2 h4 => q v F' H' s2 (fun z => nomatch z) h4) fun _ _ q => q)
end
end VL

/-! VL7: operators and built-ins on data. -/
namespace VL
open PySem PySem.Spec L2

mutual
/-- data as the library compares it -/
def D.py : D → Option PyData
  | .leaf .non => some .none
  | .leaf (.bl b) => some (.bool b)
  | .leaf (.int i) => some (.int i)
  | .leaf (.str x) => some (.str x)
  | .node _ .lst ds => (D.pyL ds).map .list
  | .node _ .tup ds => (D.pyL ds).map .tuple
  | .node _ _ _ => none
def D.pyL : List D → Option (List PyData)
  | [] => some []
  | d :: ds => match d.py, D.pyL ds with
    | some p, some ps => some (p :: ps)
    | _, _ => none
end
section
variable {K : PySem.W.Frag} {T : String → Option Addr} {F H : Hp}
mutual
theorem py_dp : ∀ {d : D} {v : V} {q : PyData}, Lk K T F H d v → Same F H → d.py = some q → Dp K H v q
  | .leaf .non, v, q, h, _, e => by cases h with | leaf z => cases e; cases z; exact .non
  | .leaf (.bl b), v, q, h, _, e => by cases h with | leaf z => cases e; cases z; exact .bl b
  | .leaf (.int i), v, q, h, _, e => by cases h with | leaf z => cases e; cases z; exact .int i
  | .leaf (.str x), v, q, h, _, e => by cases h with | leaf z => cases e; cases z; exact .str x
  | .node o .lst ds, v, q, h, s, e => by
    obtain ⟨a, vs, rfl, hn, hl⟩ := h.node s
    simp only [D.py] at e
    cases e1 : D.pyL ds with
    | none => rw [e1] at e; cases e
    | some qs =>
      rw [e1] at e; cases e
      exact .lst hn.2 (pyL_dp hl s e1)
  | .node o .tup ds, v, q, h, s, e => by
    obtain ⟨a, vs, rfl, hn, hl⟩ := h.node s
    simp only [D.py] at e
    cases e1 : D.pyL ds with
    | none => rw [e1] at e; cases e
    | some qs =>
      rw [e1] at e; cases e
      exact .tup hn.2 (pyL_dp hl s e1)
  | .node o (.dic _) ds, v, q, h, s, e => by simp [D.py] at e
  | .node o (.dit _) ds, v, q, h, s, e => by simp [D.py] at e
  | .node o (.ins _ _) ds, v, q, h, s, e => by simp [D.py] at e
theorem pyL_dp : ∀ {ds : List D} {vs : List V} {qs : List PyData}, LkL K T F H ds vs → Same F H → D.pyL ds = some qs → DpAll K H vs qs
  | [], _, _, h, _, e => by cases h; cases e; exact .nil
  | d :: ds, _, _, h, s, e => by
    cases h with
    | cons h1 h2 =>
      simp only [D.pyL] at e
      cases e1 : d.py with
      | none => rw [e1] at e; cases e
      | some p =>
        rw [e1] at e
        cases e2 : D.pyL ds with
        | none => rw [e2] at e; cases e
        | some ps =>
          rw [e2] at e; cases e
          exact .cons (py_dp h1 s e1) (pyL_dp h2 s e2)
end
theorem lk_leaf {s : Sc} {v : V} (h : Lk K T F H (.leaf s) v) : ScV s v := by cases h with | leaf z => exact z
theorem FzL.append : ∀ {ds es : List D} {vs ws : List V}, FzL K T F ds vs → FzL K T F es ws → FzL K T F (ds ++ es) (vs ++ ws)
  | [], _, _, _, h, h2 => by cases h; exact h2
  | d :: ds, _, _, _, h, h2 => by cases h with | cons a b => exact .cons a (FzL.append b h2)
theorem FzL.drop : ∀ {ds : List D} {vs : List V} (n : Nat), FzL K T F ds vs → FzL K T F (ds.drop n) (vs.drop n)
  | _, _, 0, h => h
  | [], _, n + 1, h => by cases h; exact .nil
  | d :: ds, _, n + 1, h => by cases h with | cons a b => exact FzL.drop n b
theorem FzL.take : ∀ {ds : List D} {vs : List V} (n : Nat), FzL K T F ds vs → FzL K T F (ds.take n) (vs.take n)
  | _, _, 0, h => .nil
  | [], _, n + 1, h => by cases h; exact .nil
  | d :: ds, _, n + 1, h => by cases h with | cons a b => exact .cons a (FzL.take n b)

/-! ### arithmetic -/
def fInt2 (c : Int → Int → Bool) (g : Int → Int → Int) : D → D → Option D
  | .leaf (.int i), .leaf (.int j) => if c i j = true then some (.int (g i j)) else none
  | _, _ => none
def fIntB (g : Int → Int → Bool) : D → D → Option D
  | .leaf (.int i), .leaf (.int j) => some (.bl (g i j))
  | _, _ => none
theorem op_int2 {c : Int → Int → Bool} {g : Int → Int → Int} {C : Int → Int → Prop} (h : ∀ i j, c i j = true → C i j) : Op2 K T (fInt2 c g) (rI C fun i j => .int (g i j)) := by
  intro F H d e x y d' Q hf s l1 l2 q
  unfold fInt2 at hf
  split at hf
  · rename_i i j
    split at hf
    · rename_i hc
      cases hf
      exact ⟨i, j, lk_leaf l1, lk_leaf l2, h i j hc, q _ _ (.sh (.leaf rfl))⟩
    · cases hf
  · cases hf
theorem op_int2' {g : Int → Int → Int} : Op2 K T (fInt2 (fun _ _ => true) g) (rI0 fun i j => .int (g i j)) := by
  intro F H d e x y d' Q hf s l1 l2 q
  unfold fInt2 at hf
  split at hf
  · rename_i i j
    cases hf
    exact ⟨i, j, lk_leaf l1, lk_leaf l2, q _ _ (.sh (.leaf rfl))⟩
  · cases hf
theorem op_intB {g : Int → Int → Bool} : Op2 K T (fIntB g) (rI0 fun i j => .bl (g i j)) := by
  intro F H d e x y d' Q hf s l1 l2 q
  unfold fIntB at hf
  split at hf
  · rename_i i j
    cases hf
    exact ⟨i, j, lk_leaf l1, lk_leaf l2, q _ _ (.sh (.leaf rfl))⟩
  · cases hf
end
/-! ### list + list, whatever holds it -/
def rCatR (K : PySem.W.Frag) : R2 := fun x y H Q => ∃ l b xs zs, x = .ref l ∧ y = .ref b ∧ SqL K H l xs ∧ SqL K H b zs ∧ xs.length + zs.length ≤ sizeLine ∧ ∀ p, H p = none → Q (.ref p) (upd H p (.lst (xs ++ zs)))
theorem op_catR {X : Cx} : OpR X (binaryOp .Add) (rCatR X.K) := by
  intro pins s σ H x y v u Q I rx ry h
  obtain ⟨l, b, xs, zs, rfl, rfl, hH, hB, hz, q⟩ := h
  cases rx
  cases ry
  obtain ⟨its, r, ⟨⟨c1, d1, t1, sl1⟩, n, e, hc1, hd1, ht1⟩, z⟩ := I.list hH
  obtain ⟨its2, r2, ⟨⟨c2, d2, t2, sl2⟩, n2, e2, hc2, hd2, ht2⟩, z2⟩ := I.list hB
  simp only at hc1 hd1 ht1 hc2 hd2 ht2
  subst hc1 hd1 ht1 hc2 hd2 ht2
  have hl := r.length
  have hl2 := r2.length
  have ea : its.toArray ++ its2.toArray = (its ++ its2).toArray := by simp
  open PyProof.Rows PySem in
  refine concat_meets ⟨_, e, rfl⟩ ⟨_, e2, rfl⟩ noFill_list_add seq_list_add PySem.F.slot_list_add PySem.F.entry_list_add (PySem.F.args_list_add_2 _ _) (list_addW l b its.toArray its2.toArray n n2 _ _ sl1 sl2 (by simp; omega)) ⟨e, e2, ?_⟩
  rw [ea]
  exact ⟨.ref _, _, I.lnew (t' := s.toks) (r.append r2) (by rw [List.length_append]; omega), rfl, q _ I.fresh⟩
/-- x + y: ints, texts, lists, tuples -/
def fAdd : D → D → Option D
  | .leaf (.int i), .leaf (.int j) => some (.int (i + j))
  | .leaf (.str x), .leaf (.str y) => if x.length + y.length ≤ sizeLine then some (.str (x ++ y)) else none
  | .node _ .lst xs, .node _ .lst ys => if xs.length + ys.length ≤ sizeLine ∧ xs.all D.shr = true ∧ ys.all D.shr = true then some (.lst true (xs ++ ys)) else none
  | _, _ => none
def rAddU (K : PySem.W.Frag) : R2 := fun x y H Q => (∃ i j, x = .int i ∧ y = .int j ∧ Q (.int (i + j)) H) ∨ (∃ i j, x = .str i ∧ y = .str j ∧ i.length + j.length ≤ sizeLine ∧ Q (.str (i ++ j)) H) ∨ rCatR K x y H Q
theorem op_addU {X : Cx} : OpR X (binaryOp .Add) (rAddU X.K) := op_add.or (op_add_str.or op_catR)
theorem add_ok {K : PySem.W.Frag} {T : String → Option Addr} : Op2 K T fAdd (rAddU K) := by
  intro F H d e x y d' Q hf s l1 l2 q
  unfold fAdd at hf
  split at hf
  · cases hf
    exact .inl ⟨_, _, lk_leaf l1, lk_leaf l2, q _ _ (.sh (.leaf rfl))⟩
  · split at hf
    · rename_i hz
      cases hf
      exact .inr (.inl ⟨_, _, lk_leaf l1, lk_leaf l2, hz, q _ _ (.sh (.leaf rfl))⟩)
    · cases hf
  · split at hf
    · rename_i hz
      cases hf
      obtain ⟨a, vs, rfl, hn, hl⟩ := l1.node s
      obtain ⟨b, ws, rfl, hn2, hl2⟩ := l2.node s
      refine .inr (.inr ⟨a, b, vs, ws, rfl, rfl, hn.2, hn2.2, by rw [← hl.length, ← hl2.length]; exact hz.1, fun p hp => ?_⟩)
      exact q _ _ (.new (k := .lst) (fun _ _ z => nomatch z) trivial ((hl.shr hz.2.1).append (hl2.shr hz.2.2)) hp)
    · cases hf
  · cases hf
def fSub : D → D → Option D := fInt2 (fun _ _ => true) fun i j => i - j
def fMulI : D → D → Option D := fInt2 (fun i j => decide ((-(2 ^ 64) < i ∧ i < 2 ^ 64) ∨ (-(2 ^ 64) < j ∧ j < 2 ^ 64))) fun i j => i * j
def fDiv : D → D → Option D := fInt2 (fun _ j => decide (0 < j ∧ j < 1073741824)) fun i j => i / j
def fMod : D → D → Option D := fInt2 (fun _ j => decide (0 < j)) fun i j => i % j
def fPow : D → D → Option D := fInt2 (fun i j => decide (0 ≤ j ∧ j ≤ 1000000 ∧ i.natAbs < 2 ^ 64)) fun i j => i ^ j.toNat
theorem sub_ok {K : PySem.W.Frag} {T : String → Option Addr} : Op2 K T fSub (rI0 fun i j => .int (i - j)) := op_int2'
theorem mul_ok {K : PySem.W.Frag} {T : String → Option Addr} : Op2 K T fMulI (rI CMul fun i j => .int (i * j)) := op_int2 fun i j h => by have h' := of_decide_eq_true h; exact h'
theorem div_ok {K : PySem.W.Frag} {T : String → Option Addr} : Op2 K T fDiv (rI CDiv fun i j => .int (i / j)) := op_int2 fun i j h => by have h' := of_decide_eq_true h; exact h'
theorem mod_ok {K : PySem.W.Frag} {T : String → Option Addr} : Op2 K T fMod (rI (fun _ j => 0 < j) fun i j => .int (i % j)) := op_int2 fun i j h => by simpa using h
theorem pow_ok {K : PySem.W.Frag} {T : String → Option Addr} : Op2 K T fPow (rI CPow fun i j => .int (i ^ j.toNat)) := op_int2 fun i j h => by simpa [CPow] using h
def fNeg : D → Option D
  | .leaf (.int i) => some (.int (-i))
  | _ => none
theorem neg_ok {K : PySem.W.Frag} {T : String → Option Addr} : Un1 K T fNeg (rU fun i => .int (-i)) := by
  intro F H d x d' Q hf s l q
  unfold fNeg at hf
  split at hf
  · cases hf; exact ⟨_, lk_leaf l, q _ _ (.sh (.leaf rfl))⟩
  · cases hf

/-! ### comparisons -/
def fLt : D → D → Option D
  | .leaf (.int i), .leaf (.int j) => some (.bl (decide (i < j)))
  | .leaf (.str x), .leaf (.str y) => some (.bl (decide (x.cps.toList < y.cps.toList)))
  | _, _ => none
def rLtU : R2 := fun x y H Q => (∃ i j, x = .int i ∧ y = .int j ∧ Q (.bl (decide (i < j))) H) ∨ (∃ i j, x = .str i ∧ y = .str j ∧ Q (.bl (decide (i.cps.toList < j.cps.toList))) H)
theorem op_ltU {X : Cx} : OpR X (compareOp .Lt) rLtU := op_lt.or op_lt_str
theorem lt_ok {K : PySem.W.Frag} {T : String → Option Addr} : Op2 K T fLt rLtU := by
  intro F H d e x y d' Q hf s l1 l2 q
  unfold fLt at hf
  split at hf
  · cases hf; exact .inl ⟨_, _, lk_leaf l1, lk_leaf l2, q _ _ (.sh (.leaf rfl))⟩
  · cases hf; exact .inr ⟨_, _, lk_leaf l1, lk_leaf l2, q _ _ (.sh (.leaf rfl))⟩
  · cases hf
def fLe : D → D → Option D
  | .leaf (.int i), .leaf (.int j) => some (.bl (decide (i ≤ j)))
  | .leaf (.str x), .leaf (.str y) => some (.bl (!decide (y.cps.toList < x.cps.toList)))
  | _, _ => none
def rLeU : R2 := fun x y H Q => (∃ i j, x = .int i ∧ y = .int j ∧ Q (.bl (decide (i ≤ j))) H) ∨ (∃ i j, x = .str i ∧ y = .str j ∧ Q (.bl (!decide (j.cps.toList < i.cps.toList))) H)
theorem op_leU {X : Cx} : OpR X (compareOp .LtE) rLeU := op_le.or op_le_str
def fGt : D → D → Option D := fIntB fun i j => decide (j < i)
def fGe : D → D → Option D := fIntB fun i j => decide (j ≤ i)
theorem le_ok {K : PySem.W.Frag} {T : String → Option Addr} : Op2 K T fLe rLeU := by
  intro F H d e x y d' Q hf s l1 l2 q
  unfold fLe at hf
  split at hf
  · cases hf; exact .inl ⟨_, _, lk_leaf l1, lk_leaf l2, q _ _ (.sh (.leaf rfl))⟩
  · cases hf; exact .inr ⟨_, _, lk_leaf l1, lk_leaf l2, q _ _ (.sh (.leaf rfl))⟩
  · cases hf
theorem gt_ok {K : PySem.W.Frag} {T : String → Option Addr} : Op2 K T fGt (rI0 fun i j => .bl (decide (j < i))) := op_intB
theorem ge_ok {K : PySem.W.Frag} {T : String → Option Addr} : Op2 K T fGe (rI0 fun i j => .bl (decide (j ≤ i))) := op_intB
/-- == of data -/
def eqPy (d e : D) : Option Bool := match d.py, e.py with
  | some p, some q => if SeqAt.shaped p = true ∧ SeqAt.shaped q = true then some (PyData.eqv p q) else none
  | _, _ => none
def fEq (d e : D) : Option D := (eqPy d e).map fun b => .bl b
def fNe (d e : D) : Option D := (eqPy d e).map fun b => .bl (!b)
theorem eqPy_some {d e : D} {b : Bool} (h : eqPy d e = some b) : ∃ p q, d.py = some p ∧ e.py = some q ∧ SeqAt.shaped p = true ∧ SeqAt.shaped q = true ∧ PyData.eqv p q = b := by
  unfold eqPy at h
  split at h
  · rename_i p q e1 e2
    split at h
    · rename_i hs
      cases h
      exact ⟨p, q, e1, e2, hs.1, hs.2, rfl⟩
    · cases h
  · cases h
theorem eq_ok {K : PySem.W.Frag} {T : String → Option Addr} : Op2 K T fEq (rEqD K) := by
  intro F H d e x y d' Q hf s l1 l2 q
  unfold fEq at hf
  cases h : eqPy d e with
  | none => rw [h] at hf; cases hf
  | some b =>
    rw [h] at hf; cases hf
    obtain ⟨p, p', e1, e2, s1, s2, rfl⟩ := eqPy_some h
    exact ⟨p, p', py_dp l1 s e1, py_dp l2 s e2, s1, s2, q _ _ (.sh (.leaf rfl))⟩
theorem ne_ok {K : PySem.W.Frag} {T : String → Option Addr} : Op2 K T fNe (rNeD K) := by
  intro F H d e x y d' Q hf s l1 l2 q
  unfold fNe at hf
  cases h : eqPy d e with
  | none => rw [h] at hf; cases hf
  | some b =>
    rw [h] at hf; cases hf
    obtain ⟨p, p', e1, e2, s1, s2, rfl⟩ := eqPy_some h
    exact ⟨p, p', py_dp l1 s e1, py_dp l2 s e2, s1, s2, q _ _ (.sh (.leaf rfl))⟩
def isNon : D → Bool
  | .leaf .non => true
  | _ => false
theorem isNon_lk {K : PySem.W.Frag} {T : String → Option Addr} {F H : Hp} {d : D} {x : V} (s : Same F H) (l : Lk K T F H d x) : decide (x = .non) = isNon d := by
  cases d with
  | leaf sc =>
    have z := lk_leaf l
    cases sc with
    | non => cases z; rfl
    | bl b => cases z; rfl
    | int b => cases z; rfl
    | str b => cases z; rfl
  | node o k ds =>
    obtain ⟨a, vs, rfl, _⟩ := l.node s
    rfl
def fIs (d e : D) : Option D := match e with
  | .leaf .non => some (.bl (isNon d))
  | _ => none
def fIsNot (d e : D) : Option D := match e with
  | .leaf .non => some (.bl (!isNon d))
  | _ => none
theorem is_ok {K : PySem.W.Frag} {T : String → Option Addr} : Op2 K T fIs (fun x y H Q => y = .non ∧ Q (.bl (decide (x = .non))) H) := by
  intro F H d e x y d' Q hf s l1 l2 q
  unfold fIs at hf
  split at hf
  · cases hf
    refine ⟨lk_leaf l2, ?_⟩
    rw [isNon_lk s l1]
    exact q _ _ (.sh (.leaf rfl))
  · cases hf
theorem isnot_ok {K : PySem.W.Frag} {T : String → Option Addr} : Op2 K T fIsNot (fun x y H Q => y = .non ∧ Q (.bl (!decide (x = .non))) H) := by
  intro F H d e x y d' Q hf s l1 l2 q
  unfold fIsNot at hf
  split at hf
  · cases hf
    refine ⟨lk_leaf l2, ?_⟩
    rw [isNon_lk s l1]
    exact q _ _ (.sh (.leaf rfl))
  · cases hf

/-! ### built-in functions -/
section
variable {T : String → Option Addr} {io : Io} {X : Cx} {W : WX} {p p1 p2 : Bool} {pos : Pos}
theorem qe_callB {e : Expr} {es : List Expr} {x : Str} {pp : Pos} {id : String} {r : List V → Hp → VK → Prop} {f : List D → Option D} {a : M (List D)} (hc : CallR X (.builtin id) r) (hf : OpN X.K T f r) (hg : Gl X x) (hm : X.mg x = none) (hv : bootBuiltins x = some (.builtin id)) (ha : QAB T io X W p (e :: es) a) (hn : x ≠ "__name__" := by decide) (hdb : (x == ("__debug__" : Str)) = false := by decide)
    (he : starEach (e :: es) X.env = (false, eval e X.env) :: starEach es X.env := by rfl) (hpl : (backTo pos (starEach es X.env)).any (·.1) = false := by rfl) : QE T io X W p (.Call (.Name x pp) (e :: es) [] pos) (mOpN f a) :=
  fun G g => PE.imp (pe_callB hc hg hm hv (ha G g) hn hdb he hpl) fun _ _ _ h => impN hf h
theorem qe_callTy {e : Expr} {es : List Expr} {x : Str} {pp : Pos} {Ty : String} {r : List V → Hp → VK → Prop} {f : List D → Option D} {a : M (List D)} (hc : CallR X (.type Ty) r) (hf : OpN X.K T f r) (hg : Gl X x) (hm : X.mg x = none) (hv : bootBuiltins x = some (.type Ty)) (ha : QAB T io X W p (e :: es) a) (hn : x ≠ "__name__" := by decide) (hdb : (x == ("__debug__" : Str)) = false := by decide)
    (he : starEach (e :: es) X.env = (false, eval e X.env) :: starEach es X.env := by rfl) (hpl : (backTo pos (starEach es X.env)).any (·.1) = false := by rfl) : QE T io X W p (.Call (.Name x pp) (e :: es) [] pos) (mOpN f a) :=
  fun G g => PE.imp (pe_callTy hc hg hm hv (ha G g) hn hdb he hpl) fun _ _ _ h => impN hf h
def fLen : List D → Option D
  | [.leaf (.str x)] => if x.length ≤ sizeLine then some (.int x.length) else none
  | [.node _ .lst ds] => some (.int ds.length)
  | [.node _ .tup ds] => some (.int ds.length)
  | _ => none
theorem lkl1 {K : PySem.W.Frag} {F H : Hp} {d : D} {xs : List V} (h : LkL K T F H [d] xs) : ∃ x, xs = [x] ∧ Lk K T F H d x := by
  cases h with | cons h1 h2 => cases h2; exact ⟨_, rfl, h1⟩
theorem lkl2 {K : PySem.W.Frag} {F H : Hp} {d e : D} {xs : List V} (h : LkL K T F H [d, e] xs) : ∃ x y, xs = [x, y] ∧ Lk K T F H d x ∧ Lk K T F H e y := by
  cases h with | cons h1 h2 => obtain ⟨y, rfl, h3⟩ := lkl1 h2; exact ⟨_, _, rfl, h1, h3⟩
theorem len_ok {K : PySem.W.Frag} : OpN K T fLen (fun xs H Q => ∃ x n, xs = [x] ∧ LenV K x H n ∧ Q (.int n) H) := by
  intro F H ds xs d' Q hf s l q
  unfold fLen at hf
  split at hf
  · split at hf
    · rename_i hz
      cases hf
      obtain ⟨x, rfl, l1⟩ := lkl1 l
      cases lk_leaf l1
      exact ⟨_, _, rfl, ⟨hz, rfl⟩, q _ _ (.sh (.leaf rfl))⟩
    · cases hf
  · cases hf
    obtain ⟨x, rfl, l1⟩ := lkl1 l
    obtain ⟨a, vs, rfl, hn, hl⟩ := l1.node s
    refine ⟨_, vs.length, rfl, .inl ⟨vs, hn.2, rfl⟩, ?_⟩
    rw [← hl.length]
    exact q _ _ (.sh (.leaf rfl))
  · cases hf
    obtain ⟨x, rfl, l1⟩ := lkl1 l
    obtain ⟨a, vs, rfl, hn, hl⟩ := l1.node s
    refine ⟨_, vs.length, rfl, .inr ⟨vs, hn.2, rfl⟩, ?_⟩
    rw [← hl.length]
    exact q _ _ (.sh (.leaf rfl))
  · cases hf
def fAbs : List D → Option D
  | [.leaf (.int i)] => some (.int (if i < 0 then -i else i))
  | _ => none
theorem abs_ok {K : PySem.W.Frag} : OpN K T fAbs (fun xs H Q => ∃ i, xs = [.int i] ∧ Q (.int (if i < 0 then -i else i)) H) := by
  intro F H ds xs d' Q hf s l q
  unfold fAbs at hf
  split at hf
  · cases hf
    obtain ⟨x, rfl, l1⟩ := lkl1 l
    cases lk_leaf l1
    exact ⟨_, rfl, q _ _ (.sh (.leaf rfl))⟩
  · cases hf
def fIntC : List D → Option D
  | [.leaf (.int i)] => some (.int i)
  | [.leaf (.bl b)] => some (.int (if b then 1 else 0))
  | _ => none
theorem intc_ok {K : PySem.W.Frag} : OpN K T fIntC (fun xs H Q => (∃ i, xs = [.int i] ∧ Q (.int i) H) ∨ ∃ k, xs = [.bl k] ∧ Q (.int (if k then 1 else 0)) H) := by
  intro F H ds xs d' Q hf s l q
  unfold fIntC at hf
  split at hf
  · cases hf
    obtain ⟨x, rfl, l1⟩ := lkl1 l
    cases lk_leaf l1
    exact .inl ⟨_, rfl, q _ _ (.sh (.leaf rfl))⟩
  · cases hf
    obtain ⟨x, rfl, l1⟩ := lkl1 l
    cases lk_leaf l1
    exact .inr ⟨_, rfl, q _ _ (.sh (.leaf rfl))⟩
  · cases hf
def fMax2 : List D → Option D
  | [.leaf (.int i), .leaf (.int j)] => some (.int (if j > i then j else i))
  | _ => none
def fMin2 : List D → Option D
  | [.leaf (.int i), .leaf (.int j)] => some (.int (if j < i then j else i))
  | _ => none
theorem max2_ok {K : PySem.W.Frag} : OpN K T fMax2 (fun xs H Q => ∃ i j, xs = [.int i, .int j] ∧ Q (.int (if j > i then j else i)) H) := by
  intro F H ds xs d' Q hf s l q
  unfold fMax2 at hf
  split at hf
  · cases hf
    obtain ⟨x, y, rfl, l1, l2⟩ := lkl2 l
    cases lk_leaf l1; cases lk_leaf l2
    exact ⟨_, _, rfl, q _ _ (.sh (.leaf rfl))⟩
  · cases hf
theorem min2_ok {K : PySem.W.Frag} : OpN K T fMin2 (fun xs H Q => ∃ i j, xs = [.int i, .int j] ∧ Q (.int (if j < i then j else i)) H) := by
  intro F H ds xs d' Q hf s l q
  unfold fMin2 at hf
  split at hf
  · cases hf
    obtain ⟨x, y, rfl, l1, l2⟩ := lkl2 l
    cases lk_leaf l1; cases lk_leaf l2
    exact ⟨_, _, rfl, q _ _ (.sh (.leaf rfl))⟩
  · cases hf
def bls? : List D → Option (List Bool)
  | [] => some []
  | .leaf (.bl b) :: ds => (bls? ds).map (b :: ·)
  | _ => none
theorem bls?_lk {K : PySem.W.Frag} {F H : Hp} : ∀ {ds : List D} {bs : List Bool} {vs : List V}, bls? ds = some bs → LkL K T F H ds vs → vs = bs.map V.bl
  | [], bs, vs, e, h => by cases h; cases e; rfl
  | .leaf (.bl b) :: ds, bs, vs, e, h => by
    simp only [bls?] at e
    cases e1 : bls? ds with
    | none => rw [e1] at e; cases e
    | some bs' =>
      rw [e1] at e; cases e
      cases h with
      | cons h1 h2 => rw [lk_leaf h1, bls?_lk e1 h2]; rfl
  | .leaf .non :: ds, bs, vs, e, h => by simp [bls?] at e
  | .leaf (.int _) :: ds, bs, vs, e, h => by simp [bls?] at e
  | .leaf (.str _) :: ds, bs, vs, e, h => by simp [bls?] at e
  | .node _ _ _ :: ds, bs, vs, e, h => by simp [bls?] at e
def fAll : List D → Option D
  | [.node _ .lst ds] => (bls? ds).map fun bs => .bl (bs.all id)
  | _ => none
def fAny : List D → Option D
  | [.node _ .lst ds] => (bls? ds).map fun bs => .bl (bs.any id)
  | _ => none
theorem all_ok {K : PySem.W.Frag} : OpN K T fAll (rAll K) := by
  intro F H ds xs d' Q hf s l q
  unfold fAll at hf
  split at hf
  · rename_i o es
    obtain ⟨x, rfl, l1⟩ := lkl1 l
    obtain ⟨a, vs, rfl, hn, hl⟩ := l1.node s
    cases e : bls? es with
    | none => rw [e] at hf; cases hf
    | some bs =>
      rw [e] at hf; cases hf
      have := bls?_lk e hl
      subst this
      exact ⟨a, bs, rfl, hn.2, q _ _ (.sh (.leaf rfl))⟩
  · cases hf
theorem any_ok {K : PySem.W.Frag} : OpN K T fAny (rAny K) := by
  intro F H ds xs d' Q hf s l q
  unfold fAny at hf
  split at hf
  · rename_i o es
    obtain ⟨x, rfl, l1⟩ := lkl1 l
    obtain ⟨a, vs, rfl, hn, hl⟩ := l1.node s
    cases e : bls? es with
    | none => rw [e] at hf; cases hf
    | some bs =>
      rw [e] at hf; cases hf
      have := bls?_lk e hl
      subst this
      exact ⟨a, bs, rfl, hn.2, q _ _ (.sh (.leaf rfl))⟩
  · cases hf
end
end VL

/-! VL8: list comprehensions; items and slices. -/
namespace VL
open PySem PySem.Spec L2

section
variable {K : PySem.W.Frag} {T : String → Option Addr} {G : Gm} {F H : Hp} {r : VS} {t : List D} {σ : L2.St} {tv : List V}
/-- the slots of a comprehension's own names, empty -/
def hide (own : List Nat) (r : VS) : VS := own.foldl (fun r i => r.set i none) r
/-- behind a comprehension: what may be shared comes back -/
def unhide (own : List Nat) (r0 r : VS) : VS := own.foldl (fun r i => match slot? i r0 with
  | some d => if d.shr = true ∧ i < r.length then r.set i (some d) else r
  | none => r) r
theorem ows_give {r : VS} {σ : L2.St} {P : Ft} (h : OwS K T F H r σ P) (n : Nat) : ∃ P', OwS K T F H (r.set n none) σ P' ∧ ∀ a, P' a → P a := by
  by_cases hn : n < r.length
  · cases e : r[n] with
    | none =>
      have e' : r[n]? = some none := by rw [List.getElem?_eq_getElem hn, e]
      rw [set_same e']
      exact ⟨P, h, fun _ z => z⟩
    | some d =>
      obtain ⟨v, P1, P2, _, _, _, un, g, _⟩ := h.focus (n := n) (d := d) (by rw [List.getElem?_eq_getElem hn, e])
      exact ⟨P2, g, fun a z => (un a).mpr (.inr z)⟩
  · rw [List.set_eq_of_length_le (by omega)]
    exact ⟨P, h, fun _ z => z⟩
/-- an empty slot's value does not matter -/
theorem ows_reval {r : VS} {σ σ' : L2.St} {P : Ft} (h : OwS K T F H r σ P) (hl : σ'.length = σ.length) (hs : ∀ j : Nat, (∃ d, r[j]? = some (some d)) → σ'[j]? = σ[j]?) : OwS K T F H r σ' P := by
  induction h generalizing σ' with
  | nil e => cases σ' with
    | nil => exact .nil e
    | cons _ _ => simp at hl
  | @none x r σ P hr ih => cases σ' with
    | nil => simp at hl
    | cons y σ' => exact .none (ih (by simpa using hl) fun j ⟨d, e⟩ => by simpa using hs (j + 1) ⟨d, by simpa using e⟩)
  | @some d v r σ P P1 P2 o hr dj un ih => cases σ' with
    | nil => simp at hl
    | cons y σ' =>
      have := hs 0 ⟨d, rfl⟩
      simp at this
      subst this
      exact .some o (ih (by simpa using hl) fun j ⟨d, e⟩ => by simpa using hs (j + 1) ⟨d, by simpa using e⟩) dj un
theorem Rl.empty (h : Rl K T G F r t σ tv H) (i : Nat) : Rl K T G F (r.set i none) t σ tv H := by
  obtain ⟨⟨Ps, Pt, h1, h2, dj, hq⟩, b1, b2, b3, b4, b5⟩ := h
  obtain ⟨P', g, s⟩ := ows_give h1 i
  exact ⟨⟨P', Pt, g, h2, fun a z w => dj a (s a z) w, fun a z => hq a (z.imp (s a) id)⟩, b1, b2, b3, b4, b5⟩
theorem Rl.reval {σ' : L2.St} (h : Rl K T G F r t σ tv H) (hl : σ'.length = σ.length) (hs : ∀ j : Nat, (∃ d, r[j]? = some (some d)) → σ'[j]? = σ[j]?) (hp : ∀ i v, G.pin i = some v → σ'[i]? = σ[i]?) : Rl K T G F r t σ' tv H := by
  obtain ⟨⟨Ps, Pt, h1, h2, dj, hq⟩, b1, b2, b3, b4, b5⟩ := h
  exact ⟨⟨Ps, Pt, ows_reval h1 hl hs, h2, dj, hq⟩, b1, b2, b3, b4, fun i v e => (hp i v e).trans (b5 i v e)⟩
theorem hide_length : ∀ (own : List Nat) (r : VS), (hide own r).length = r.length
  | [], r => rfl
  | i :: own, r => by
    show (hide own (r.set i none)).length = _
    rw [hide_length own, List.length_set]
theorem hide_get : ∀ (own : List Nat) (r : VS) (j : Nat), (j ∉ own → (hide own r)[j]? = r[j]?) ∧ (j ∈ own → ∀ d, (hide own r)[j]? ≠ some (some d))
  | [], r, j => ⟨fun _ => rfl, fun h => by simp at h⟩
  | i :: own, r, j => by
    have ih := hide_get own (r.set i none) j
    refine ⟨fun h => ?_, fun h d e => ?_⟩
    · have h1 : i ≠ j := fun z => h (by simp [z])
      have h2 : j ∉ own := fun z => h (List.mem_cons_of_mem _ z)
      exact (ih.1 h2).trans (List.getElem?_set_ne h1)
    · by_cases h2 : j ∈ own
      · exact ih.2 h2 d e
      · have e1 : i = j := by
          rcases List.mem_cons.mp h with z | z
          · exact z.symm
          · exact absurd z h2
        have e2 : (r.set i none)[j]? = some (some d) := (ih.1 h2).symm.trans e
        subst e1
        by_cases hl : i < r.length
        · rw [List.getElem?_set_self hl] at e2; cases e2
        · rw [List.getElem?_eq_none (by rw [List.length_set]; omega)] at e2; cases e2
theorem Rl.hide : ∀ (own : List Nat) {r : VS}, Rl K T G F r t σ tv H → Rl K T G F (hide own r) t σ tv H
  | [], _, h => h
  | i :: own, _, h => Rl.hide own (h.empty i)
theorem wipe_get (σ : L2.St) : ∀ (own : List Nat) (j : Nat), j ∉ own → (wipe σ own)[j]? = σ[j]?
  | [], _, _ => rfl
  | v :: vs, j, h => by
    show ((wipe σ vs).set v none)[j]? = _
    rw [List.getElem?_set_ne (fun z => h (by simp [z])), wipe_get σ vs j fun z => h (List.mem_cons_of_mem _ z)]
theorem wipe_in (σ : L2.St) : ∀ (own : List Nat) (j : Nat), j ∈ own → (wipe σ own)[j]? = if j < σ.length then some none else none
  | v :: vs, j, h => by
    show ((wipe σ vs).set v none)[j]? = _
    by_cases e : v = j
    · subst e
      by_cases hl : v < σ.length
      · rw [List.getElem?_set_self (by rw [wipe_length]; exact hl), if_pos hl]
      · rw [List.getElem?_eq_none (by rw [List.length_set, wipe_length]; omega), if_neg hl]
    · rw [List.getElem?_set_ne e]
      refine wipe_in σ vs j ?_
      rcases List.mem_cons.mp h with z | z
      · exact absurd z.symm e
      · exact z
theorem wipe_off {own sl : List Nat} {σ σ' : L2.St} (hs : ∀ j ∈ sl, j ∈ own) (h : Off sl (wipe σ own) σ') : wipe σ' own = wipe σ own := by
  obtain ⟨hl, h⟩ := h
  rw [wipe_length] at hl
  refine List.ext_getElem? fun j => ?_
  by_cases hj : j ∈ own
  · rw [wipe_in _ _ _ hj, wipe_in _ _ _ hj, hl]
  · rw [wipe_get _ _ _ hj, h j fun z => hj (hs j z)]
theorem Rl.unhide (hr0 : ∀ i d, slot? i r = some d → d.shr = true → ∃ v, σ[i]? = some (some v) ∧ Fz K T F d v) : ∀ (own : List Nat) {r1 : VS}, Rl K T G F r1 t σ tv H → Rl K T G F (unhide own r r1) t σ tv H
  | [], _, h => h
  | i :: own, r1, h => by
    refine Rl.unhide hr0 own ?_
    dsimp only
    cases e : slot? i r with
    | none => exact h
    | some d =>
      dsimp only
      split
      · rename_i hc
        obtain ⟨v, ev, fz⟩ := hr0 i d e hc.1
        have h2 := (h.push fz).put hc.2 fun w ew => by
          have := h.pin i w ew
          rw [ev] at this
          exact Option.some.inj (Option.some.inj this)
        rw [set_same ev] at h2
        exact h2
      · exact h
/-- the top temporary goes into the list below it -/
theorem Rl.appendTop {acc : List D} {D0 : Addr} {y : D} {yv : V} {vs : List V} (h : Rl K T G F r (y :: .node true .lst acc :: t) σ (yv :: .ref D0 :: tv) H) : ∃ vs, H D0 = some (.lst vs) ∧ acc.length = vs.length ∧ Rl K T G F r (.node true .lst (acc ++ [y]) :: t) σ (.ref D0 :: tv) (upd H D0 (.lst (vs ++ [yv]))) := by
  obtain ⟨⟨Ps, Pt, h1, h2, dj, hq⟩, b1, b2, b3, b4, b5⟩ := h
  cases h2 with
  | @cons _ _ _ _ _ A B oy h2 dj2 un =>
    cases h2 with
    | @cons _ _ _ _ _ A2 B2 ol h2 dj3 un2 =>
      cases ol with
      | @own a dx k vs ds _ P0 hn hl n1 n2 f1 f2 hp =>
        obtain ⟨_, C, e1, e2⟩ := hn
        have e2 : dx = D0 := e2
        subst e2
        have e1 : H dx = some (.lst vs) := e1
        have pd : A2 dx := (hp dx).mpr (.inl (.inl rfl))
        have keep : ∀ {Q : Ft}, (∀ a, Q a → ¬ A2 a) → ∀ a, Q a → upd H dx (.lst (vs ++ [yv])) a = H a := fun hQ a z => upd_ne fun e => hQ a z (by rw [e]; exact pd)
        have keep0 : ∀ a, P0 a → upd H dx (.lst (vs ++ [yv])) a = H a := fun a z => upd_ne fun e => n1 (by rw [← e]; exact z)
        have dS : ∀ a, Ps a → ¬ A2 a := fun a z w => dj a z ((un a).mpr (.inr ((un2 a).mpr (.inl w))))
        have dA : ∀ a, A a → ¬ A2 a := fun a z w => dj2 a z ((un2 a).mpr (.inl w))
        have dB : ∀ a, B2 a → ¬ A2 a := fun a z w => dj3 a w z
        refine ⟨vs, e1, hl.length, ⟨Ps, fun a => (((a = dx ∨ a = dx) ∨ (P0 a ∨ A a)) ∨ B2 a), h1.frame (Same.refl _) (keep dS) fun a z => (h1.at z).1, ?_, ?_, ?_⟩, ?_, ?_, b3, b4, b5⟩
        · refine .cons (P1 := fun a => ((a = dx ∨ a = dx) ∨ (P0 a ∨ A a))) (P2 := B2) (.own (dx := dx) (vs := vs ++ [yv]) (P0 := fun a => P0 a ∨ A a) ⟨trivial, 0, upd_same, rfl⟩ ?_ ?_ ?_ f1 f1 fun _ => Iff.rfl) (h2.frame (Same.refl _) (keep dB) fun a z => (h2.at z).1) ?_ fun _ => Iff.rfl
          · refine OwL.join (hl.frame (Same.refl _) keep0 fun a z => (hl.at z).1) (OwL.one (oy.frame (Same.refl _) (keep dA) fun a z => (oy.at z).1)) (fun a z w => dA a w ((hp a).mpr (.inr z))) fun _ => Iff.rfl
          · rintro (z | z)
            · exact n1 z
            · exact dA _ z pd
          · rintro (z | z)
            · exact n1 z
            · exact dA _ z pd
          · intro a z w
            rcases z with (rfl | rfl) | z | z
            · exact dB _ w pd
            · exact dB _ w pd
            · exact dB _ w ((hp a).mpr (.inr z))
            · exact dj2 a z ((un2 a).mpr (.inr w))
        · intro a z w
          rcases w with ((rfl | rfl) | w | w) | w
          · exact dS _ z pd
          · exact dS _ z pd
          · exact dS _ z ((hp a).mpr (.inr w))
          · exact dj a z ((un a).mpr (.inl w))
          · exact dj a z ((un a).mpr (.inr ((un2 a).mpr (.inr w))))
        · intro a z
          rcases z with z | ((rfl | rfl) | z | z) | z
          · exact hq a (.inl z)
          · exact hq _ (.inr ((un _).mpr (.inr ((un2 _).mpr (.inl pd)))))
          · exact hq _ (.inr ((un _).mpr (.inr ((un2 _).mpr (.inl pd)))))
          · exact hq a (.inr ((un a).mpr (.inr ((un2 a).mpr (.inl ((hp a).mpr (.inr z)))))))
          · exact hq a (.inr ((un a).mpr (.inl z)))
          · exact hq a (.inr ((un a).mpr (.inr ((un2 a).mpr (.inr z)))))
        · exact fun a o e => by
            rw [upd_ne (fun z => by rw [z, f1] at e; cases e)]
            exact b1 a o e
        · intro a o e n
          have : a ≠ dx := fun z => by
            rcases hq dx (.inr ((un dx).mpr (.inr ((un2 dx).mpr (.inl pd))))) with w | w
            · exact n (by rw [z]; exact w)
            · rw [z, w] at e; cases e
          rw [upd_ne this]
          exact b2 a o e n
end

/-! ### list comprehensions -/
def M.calm {α : Type} (m : M α) : M α := fun r => match m r with
  | .ex _ _ => .no
  | x => x
theorem sat_calm {α : Type} {m : M α} {r : VS} {ok : α → VS → Prop} {ex ex' : String → VS → Prop} (h : (M.calm m r).sat ok ex) : (m r).sat ok ex' := by
  unfold M.calm at h
  cases e : m r with
  | ok a r' => rw [e] at h; exact h
  | ex c r' => rw [e] at h; exact h.elim
  | no => rw [e] at h; exact h
def mToU (g : Gt) (d : D) : M Unit := fun r => match g d r with
  | some r' => .ok () r'
  | none => .no
theorem sat_toU {g : Gt} {d : D} {r : VS} {ok : Unit → VS → Prop} {ex : String → VS → Prop} (h : (mToU g d r).sat ok ex) : ∃ r', g d r = some r' ∧ ok () r' := by
  unfold mToU at h
  cases e : g d r with
  | none => rw [e] at h; exact h.elim
  | some r' => rw [e] at h; exact ⟨r', rfl, h⟩
def mHide (own : List Nat) : M Unit := fun r => .ok () (hide own r)
def lcL (own : List Nat) (g : Gt) (c : M Bool) (el : M D) : List D → List D → M (List D)
  | [], acc => M.bind (mHide own) fun _ => M.ret acc
  | d :: ds, acc => M.bind (mHide own) fun _ => M.bind (mToU g d) fun _ => M.bind (M.calm c) fun b => if b = true then M.bind (M.calm el) fun y => M.bind (M.ck (decide (acc.length < sizeLine))) fun _ => lcL own g c el ds (acc ++ [y]) else lcL own g c el ds acc
/-- [el for g in src if c] -/
def mLc (own : List Nat) (f : D → Option (List D)) (src : M D) (g : Gt) (c : M Bool) (el : M D) : M D := M.bind src fun d => M.bind (M.opt (f d)) fun ds r => match lcL own g c el (D.frzL ds) [] r with
  | .ok ys r' => .ok (.lst true ys) (unhide own r r')
  | _ => .no
def mYes : M Bool := M.ret true
section
variable {T : String → Option Addr} {io : Io} {X : Cx} {W : WX} {p p1 p2 : Bool} {pos : Pos}
def QTs (T : String → Option Addr) (io : Io) (X : Cx) (W : WX) (p : Bool) (e : List Expr) (m : M Bool) : Prop := ∀ G, Pins io G → PTs X e (tT X.K T G W p m)
theorem qts_nil : QTs T io X W true [] mYes := fun G g => ⟨fun pins s σ H Q I ⟨F, r, t, tv, h1, h2⟩ => pts_nil.run pins s σ H Q I (h2 F H (Same.refl _) (fun _ => Same.refl _) h1)⟩
theorem qts_one {e : Expr} {m : M Bool} (h : QT T io X W p e m) : QTs T io X W p [e] m := fun G g => pts_one (h G g)

/-- the comprehension's reading, over a walk -/
theorem lc_walks {K : PySem.W.Frag} {G : Gm} {own : List Nat} {g : Gt} {sl : List Nat} {pg : Bool} {c : M Bool} {el : M D} {J : It} {F : Hp} {ds : List D} {Pv : Hp → Prop} {r : VS} {t : List D} {tv : List V} {σ : L2.St} {H Hp0 : Hp} {D0 : Addr} {Q : Hp → Prop}
    (hD : Hp0 D0 = none) (hS : Same Hp0 H) (w : Walks K T J F ds Pv) (hv : ∀ F' H', Same F F' → Same F' H' → Pv H') (hsl : ∀ j ∈ sl, j ∈ own) (hpo : ∀ i v, G.pin i = some v → i ∉ own) (h1 : Rl K T G F r (.node true .lst [] :: t) σ (.ref D0 :: tv) H)
    (h2 : (lcL own g c el ds [] r).sat (fun ys r' => ∀ F' H', Same F F' → ((pg && (p1 && p2)) = true → Same Hp0 H') → Rl K T G F' r' (.node true .lst ys :: t) σ (.ref D0 :: tv) H' → Q H') fun _ _ => False) :
    ∃ W' : Nat → Nat → Hp → Prop, (∃ m, W' 0 m H) ∧ ∀ i m H, W' i m H →
      (J.stop i H ∧ Q H) ∨ (J.go i H ∧ ∃ Nx : Hp → Prop, (∀ H', Nx H' → ∃ m', m' < m ∧ W' (i + 1) m' H') ∧ ∀ x H', J.yld i H x H' → tG K T G sl pg g x (wipe σ own) H' fun σ2 H2 => wipe σ2 own = wipe σ own ∧ tT K T G W0 p1 c σ2 H2 fun b H3 =>
        if b = true then tE K T G W0 p2 el σ2 H3 fun y H4 => ∃ acc, H4 D0 = some (.lst acc) ∧ acc.length < sizeLine ∧ Nx (upd H4 D0 (.lst (acc ++ [y]))) else Nx H3) := by
  let Inv := fun (i : Nat) (H : Hp) => ∃ F' r' σ' acc, Same F F' ∧ ((pg && (p1 && p2)) = true → Same Hp0 H) ∧ wipe σ' own = wipe σ own ∧ Rl K T G F' r' (.node true .lst acc :: t) σ' (.ref D0 :: tv) H ∧ (lcL own g c el (ds.drop i) acc r').sat (fun ys r' => ∀ F' H', Same F F' → ((pg && (p1 && p2)) = true → Same Hp0 H') → Rl K T G F' r' (.node true .lst ys :: t) σ (.ref D0 :: tv) H' → Q H') fun _ _ => False
  -- the slots wiped
  have wiped : ∀ {F' : Hp} {r' : VS} {σ' : L2.St} {t' : List D} {tv' : List V} {H' : Hp} (τ : L2.St), τ.length = σ'.length → (∀ j, j ∉ own → τ[j]? = σ'[j]?) → Rl K T G F' r' t' σ' tv' H' → Rl K T G F' (hide own r') t' τ tv' H' := by
    intro F' r' σ' t' tv' H' τ hl ht h
    refine (h.hide own).reval hl (fun j ⟨d, e⟩ => ht j fun z => (hide_get own r' j).2 z d e) fun i v e => ht i (hpo i v e)
  have sameOut : ∀ {σ' : L2.St}, wipe σ' own = wipe σ own → σ'.length = σ.length ∧ ∀ j, j ∉ own → σ'[j]? = σ[j]? := by
    intro σ' e
    refine ⟨by have := congrArg List.length e; rwa [wipe_length, wipe_length] at this, fun j hj => ?_⟩
    rw [← wipe_get σ' own j hj, e, wipe_get σ own j hj]
  refine ⟨fun i m H => m = ds.length - i ∧ i ≤ ds.length ∧ Inv i H, ⟨ds.length, by simp, Nat.zero_le _, F, r, σ, [], Same.refl _, fun _ => hS, rfl, h1, by simpa using h2⟩, ?_⟩
  rintro i m H1 ⟨rfl, hi, F1, r1, σ1, acc, s1, z1, ew, h3, q⟩
  have pv := hv F1 H1 s1 h3.sub
  obtain ⟨hlen, hout⟩ := sameOut ew
  by_cases hlt : i < ds.length
  · refine .inr ⟨w.go i H1 pv hlt, fun H' => Inv (i + 1) H', fun H' h => ⟨ds.length - (i + 1), by omega, rfl, hlt, h⟩, fun x H2 y => ?_⟩
    have ed : ds.drop i = ds[i] :: ds.drop (i + 1) := List.drop_eq_getElem_cons hlt
    rw [ed] at q
    obtain ⟨fz, rfl⟩ := w.yld i H1 x H2 ds[i] pv (List.getElem?_eq_getElem hlt) y
    have q := sat_bind q
    obtain ⟨r2, e2, q⟩ := sat_toU (sat_bind (m := mToU g ds[i]) (r := hide own r1) q)
    have h4 := wiped (wipe σ own) (by rw [wipe_length, hlen]) (fun j hj => by rw [wipe_get σ own j hj, hout j hj]) h3
    refine ⟨F1, hide own r1, _, _, ds[i], r2, h4.push (fz.mono s1), e2, fun σ2 F2 H2 o2 s2 z2 h5 => ?_⟩
    have ew2 := wipe_off hsl o2
    refine ⟨ew2, F2, r2, _, _, h5, (sat_calm (ex' := fun _ _ => False) (sat_bind q)).mono (fun b r3 q F3 H3 s3 z3 h6 => ?_) fun c r' q => q.elim⟩
    · cases b with
      | false =>
        rw [if_neg Bool.false_ne_true] at q ⊢
        exact ⟨F3, r3, σ2, acc, (s1.trans s2).trans s3, fun z => ((z1 z).trans (z2 (andL z))).trans (z3 (andL (andR z))), ew2, h6, q⟩
      | true =>
        rw [if_pos rfl] at q ⊢
        refine ⟨F3, r3, _, _, h6, (sat_calm (ex' := fun _ _ => False) (sat_bind q)).mono (fun y r4 q yv F4 H4 s4 z4 h7 => ?_) fun c r' q => q.elim⟩
        · obtain ⟨hz, q⟩ := sat_ck (sat_bind q)
          obtain ⟨vs, e5, hlv, h8⟩ := h7.appendTop (vs := [])
          refine ⟨vs, e5, by rw [← hlv]; exact of_decide_eq_true hz, F4, r4, σ2, acc ++ [y], ((s1.trans s2).trans s3).trans s4, fun z => ?_, ew2, h8, q⟩
          have zz := (((z1 z).trans (z2 (andL z))).trans (z3 (andL (andR z)))).trans (z4 (andR (andR z)))
          intro b o e
          rw [upd_ne (ne_of_none e hD)]
          exact zz b o e
  · have e : i = ds.length := by omega
    subst e
    rw [List.drop_eq_nil_of_le (Nat.le_refl _)] at q
    have h4 := wiped σ hlen.symm (fun j hj => (hout j hj).symm) h3
    exact .inl ⟨w.stop H1 pv, sat_bind q F1 H1 s1 z1 h4⟩

/-- the comprehension as a value, from its reading -/
theorem lc_imp {G : Gm} {own : List Nat} {g : Gt} {sl : List Nat} {pg : Bool} {c : M Bool} {el : M D} {J : It} {F : Hp} {ds : List D} {Pv : Hp → Prop} {r : VS} {t : List D} {tv : List V} {σ : L2.St} {H : Hp} {Q : VK} {K : PySem.W.Frag}
    (w : Walks K T J F ds Pv) (hv : ∀ F' H', Same F F' → Same F' H' → Pv H') (hsl : ∀ j ∈ sl, j ∈ own) (hpo : ∀ i v, G.pin i = some v → i ∉ own) (h1 : Rl K T G F r t σ tv H)
    (h2 : ((fun r => match lcL own g c el ds [] r with | .ok ys r' => R.ok (D.lst true ys) (unhide own r r') | _ => .no) r : R D).sat (fun d r' => ∀ v F' H', Same F F' → ((pg && (p1 && p2)) = true → Same H H') → Rl K T G F' r' (d :: t) σ (v :: tv) H' → Q v H') fun _ _ => False) :
    ∀ D0, H D0 = none → ∃ W' : Nat → Nat → Hp → Prop, (∃ m, W' 0 m (upd H D0 (.lst []))) ∧ ∀ i m H, W' i m H →
      (J.stop i H ∧ Q (.ref D0) H) ∨ (J.go i H ∧ ∃ Nx : Hp → Prop, (∀ H', Nx H' → ∃ m', m' < m ∧ W' (i + 1) m' H') ∧ ∀ x H', J.yld i H x H' → tG K T G sl pg g x (wipe σ own) H' fun σ2 H2 => wipe σ2 own = wipe σ own ∧ tT K T G W0 p1 c σ2 H2 fun b H3 =>
        if b = true then tE K T G W0 p2 el σ2 H3 fun y H4 => ∃ acc, H4 D0 = some (.lst acc) ∧ acc.length < sizeLine ∧ Nx (upd H4 D0 (.lst (acc ++ [y]))) else Nx H3) := by
  intro D0 hD
  have h3 := Rl.alloc (k := .lst) (ds := []) (vs := []) (fun _ _ z => nomatch z) rfl trivial h1 hD
  refine lc_walks hD (same_upd hD) w hv hsl hpo h3 ?_
  dsimp only at h2
  cases e : lcL own g c el ds [] r with
  | no => rw [e] at h2; exact h2.elim
  | ex _ _ => rw [e] at h2; exact h2.elim
  | ok ys r' =>
    rw [e] at h2
    intro F' H' s1 z1 h4
    refine h2 (.ref D0) F' H' s1 z1 (Rl.unhide (fun i d e hs => ?_) own h4)
    obtain ⟨v, ev, lk⟩ := h1.look (slot?_eq e)
    exact ⟨v, ev, (lk.shr hs).mono s1⟩
theorem lc_src {K : PySem.W.Frag} {G : Gm} {own : List Nat} {f : D → Option (List D)} {src : M D} {g : Gt} {c : M Bool} {el : M D} {r : VS} {ok : D → VS → Prop} {ex : String → VS → Prop} (h : (mLc own f src g c el r).sat ok ex) :
    (src r).sat (fun d r' => ∃ ds, f d = some ds ∧ ((fun r => match lcL own g c el (D.frzL ds) [] r with | .ok ys r' => R.ok (D.lst true ys) (unhide own r r') | _ => .no) r' : R D).sat ok fun _ _ => False) ex := by
  refine (sat_bind h).mono (fun d r' q => ?_) fun _ _ q => q
  obtain ⟨ds, e, q⟩ := sat_opt (sat_bind q)
  refine ⟨ds, e, ?_⟩
  dsimp only at q ⊢
  cases e2 : lcL own g c el (D.frzL ds) [] r' with
  | no => rw [e2] at q; exact q.elim
  | ex _ _ => rw [e2] at q; exact q.elim
  | ok ys r2 => rw [e2] at q; exact q
theorem qe_lc_list {elt tg src : Expr} {ifs : List Expr} {scope : Scope} {own : List (Str × Nat)} {ms el : M D} {g : Gt} {sl : List Nat} {pg : Bool} {c : M Bool} (hc : X.calm = true) (hN : X.N.Nodup) (ok : BlkOk X.N X.env.scope scope own) (hsrc : QE T io X W p src ms)
    (hg : ∀ (s : Shared) (H : Hp) (C : Addr) (cl : List (Str × Addr)) (fp : List Addr), QG T io (X.blk s H scope (compEnvC scope cl C X.env) fp) sl pg tg g) (ht : ∀ (s : Shared) (H : Hp) (C : Addr) (cl : List (Str × Addr)) (fp : List Addr), QTs T io (X.blk s H scope (compEnvC scope cl C X.env) fp) W0 p1 ifs c)
    (he : ∀ (s : Shared) (H : Hp) (C : Addr) (cl : List (Str × Addr)) (fp : List Addr), QE T io (X.blk s H scope (compEnvC scope cl C X.env) fp) W0 p2 elt el) (hsl : ∀ j ∈ sl, j ∈ own.map (·.2)) (hio : ∀ j ∈ io.l, j ∉ own.map (·.2)) (hs : ∀ x, foldedSetIterable src X.env x = pure x := by intro _; rfl) :
    QE T io X W (p && (pg && (p1 && p2))) (.ListComp elt [⟨tg, src, ifs, 0⟩] scope pos) (mLc (own.map (·.2)) lst? ms g c el) := fun G gp => PE.imp (pe_lc hc hN (pi_list (hsrc G gp)) ok (fun s H C cl fp => hg s H C cl fp G gp) (fun s H C cl fp => ht s H C cl fp G gp) (fun s H C cl fp => he s H C cl fp G gp) hs) fun σ H Q ⟨F, r, t, tv, h1, h2⟩ => by
  refine ⟨F, r, t, tv, h1, (lc_src (K := X.K) (G := G) h2).mono (fun d r1 q v F1 H1 s1 z1 h3 => ?_) fun _ _ q => q⟩
  obtain ⟨ds, e, q⟩ := q
  obtain ⟨o, rfl⟩ := lst?_eq e
  obtain ⟨F2, s2, h4, fz⟩ := h3.freeze
  cases fz with
  | @node a k vs _ hn hl =>
    have hq : SqL X.K F2 a vs := hn.2
    refine ⟨a, rfl, ⟨vs, h4.sub.seq hq⟩, lc_imp (walks_list' hl) (fun F' H' s3 s4 => s4.seq (s3.seq hq)) hsl (fun i v e => hio i (gp.1 i v e)) h4.drop (q.mono (fun d r' q v F' H' s3 z3 h5 => q v F' H' ((s1.trans s2).trans s3) (fun z => (z1 (andL z)).trans (z3 (andR z))) h5) fun _ _ q => q)⟩
theorem qe_lc_tup {elt tg src : Expr} {ifs : List Expr} {scope : Scope} {own : List (Str × Nat)} {ms el : M D} {g : Gt} {sl : List Nat} {pg : Bool} {c : M Bool} (hc : X.calm = true) (hN : X.N.Nodup) (ok : BlkOk X.N X.env.scope scope own) (hsrc : QE T io X W p src ms)
    (hg : ∀ (s : Shared) (H : Hp) (C : Addr) (cl : List (Str × Addr)) (fp : List Addr), QG T io (X.blk s H scope (compEnvC scope cl C X.env) fp) sl pg tg g) (ht : ∀ (s : Shared) (H : Hp) (C : Addr) (cl : List (Str × Addr)) (fp : List Addr), QTs T io (X.blk s H scope (compEnvC scope cl C X.env) fp) W0 p1 ifs c)
    (he : ∀ (s : Shared) (H : Hp) (C : Addr) (cl : List (Str × Addr)) (fp : List Addr), QE T io (X.blk s H scope (compEnvC scope cl C X.env) fp) W0 p2 elt el) (hsl : ∀ j ∈ sl, j ∈ own.map (·.2)) (hio : ∀ j ∈ io.l, j ∉ own.map (·.2)) (hs : ∀ x, foldedSetIterable src X.env x = pure x := by intro _; rfl) :
    QE T io X W (p && (pg && (p1 && p2))) (.ListComp elt [⟨tg, src, ifs, 0⟩] scope pos) (mLc (own.map (·.2)) tupl? ms g c el) := fun G gp => PE.imp (pe_lc hc hN (pi_tup (hsrc G gp)) ok (fun s H C cl fp => hg s H C cl fp G gp) (fun s H C cl fp => ht s H C cl fp G gp) (fun s H C cl fp => he s H C cl fp G gp) hs) fun σ H Q ⟨F, r, t, tv, h1, h2⟩ => by
  refine ⟨F, r, t, tv, h1, (lc_src (K := X.K) (G := G) h2).mono (fun d r1 q v F1 H1 s1 z1 h3 => ?_) fun _ _ q => q⟩
  obtain ⟨ds, e, q⟩ := q
  obtain ⟨o, rfl⟩ := tupl?_eq e
  obtain ⟨F2, s2, h4, fz⟩ := h3.freeze
  cases fz with
  | @node a k vs _ hn hl =>
    have hq : SqT X.K F2 a vs := hn.2
    refine ⟨a, rfl, ⟨vs, SqT.mono h4.sub hq⟩, lc_imp (walks_tup hl) (fun F' H' s3 s4 => SqT.mono s4 (SqT.mono s3 hq)) hsl (fun i v e => hio i (gp.1 i v e)) h4.drop (q.mono (fun d r' q v F' H' s3 z3 h5 => q v F' H' ((s1.trans s2).trans s3) (fun z => (z1 (andL z)).trans (z3 (andR z))) h5) fun _ _ q => q)⟩
end
end VL

/-! VL9: items, slices, list methods on a name, isinstance, except .. as. -/
namespace VL
open PySem PySem.Spec L2

section
variable {T : String → Option Addr} {io : Io} {X : Cx} {W : WX} {p p1 p2 : Bool} {pos : Pos}
/-- a looked-at answer that may be shared -/
def mSh (a : M D) : M D := M.bind a fun d => M.bind (M.ck d.shr) fun _ => M.ret d
theorem qe_sh {e : Expr} {a : M D} (h : QB T io X W p e a) : QE T io X W p e (mSh a) := fun G g => PE.imp (h G g) fun σ H Q ⟨F, r, t, tv, h1, h2⟩ => by
  refine ⟨F, r, t, tv, h1, (sat_bind h2).mono (fun d r1 q v F1 H1 s1 s2 h3 lk => ?_) fun _ _ q => q⟩
  obtain ⟨hs, q⟩ := sat_ck (sat_bind q)
  exact q v F1 H1 s1 s2 (h3.push (lk.shr hs))
/-- rules whose answer is looked at -/
def Op2B (K : PySem.W.Frag) (T : String → Option Addr) (f : D → D → Option D) (r : R2) : Prop := ∀ (F H : Hp) (d e : D) (x y : V) (d' : D) (Q : VK), f d e = some d' → Same F H → Lk K T F H d x → Lk K T F H e y → (∀ v, Lk K T F H d' v → Q v H) → r x y H Q
theorem imp2B {K : PySem.W.Frag} {G : Gm} {f : D → D → Option D} {r : R2} {a b : M D} {σ : L2.St} {H : Hp} {Q : VK} (hf : Op2B K T f r) (h : tB K T G W p (mOp2 f a b) σ H Q) : tOp r (tB K T G W p a) (tB K T G W true b) σ H Q := by
  obtain ⟨F, r0, t, tv, h1, h2⟩ := h
  refine ⟨F, r0, t, tv, h1, (sat_bind h2).mono (fun d r1 q v F1 H1 s1 s2 h3 lk => ?_) fun _ _ q => q⟩
  refine ⟨F1, r1, t, tv, h3, (sat_bind q).mono (fun d2 r2 q v2 F2 H2 s3 s4 h4 lk2 => ?_) fun _ _ q => q.trans s1⟩
  obtain ⟨d', e2, q⟩ := sat_opt q
  exact hf F2 H2 d d2 v v2 d' Q e2 h4.sub (lk.mono s3 (s4 rfl)) lk2 fun u lk3 => q u F2 H2 (s1.trans s3) (fun z => (s2 z).trans (s4 rfl)) h4 lk3
/-- x[i]: lists, tuples, texts -/
def fIx : D → D → Option D
  | .node _ .lst ds, .leaf (.int i) => atI ds i
  | .node _ .tup ds, .leaf (.int i) => atI ds i
  | .leaf (.str z), .leaf (.int i) => if z.length ≤ sizeLine then (atI z.cps.toList i).map fun c => .str ⟨#[c]⟩ else none
  | _, _ => none
theorem atI_lk {K : PySem.W.Frag} {F H : Hp} {ds : List D} {vs : List V} {i : Int} {d : D} (l : LkL K T F H ds vs) (h : atI ds i = some d) : ∃ v, atI vs i = some v ∧ Lk K T F H d v := by
  unfold atI at h ⊢
  rw [← l.length]
  cases e : ixN ds.length i with
  | none => rw [e] at h; cases h
  | some j => rw [e] at h; exact l.get h
theorem ix_ok {K : PySem.W.Frag} : Op2B K T fIx (rIx K) := by
  intro F H d e x y d' Q hf s l1 l2 q
  unfold fIx at hf
  split at hf
  · obtain ⟨a, vs, rfl, hn, hl⟩ := l1.node s
    cases lk_leaf l2
    obtain ⟨v, e1, lk⟩ := atI_lk hl hf
    exact .inl ⟨a, vs, _, v, rfl, rfl, hn.2, e1, q v lk⟩
  · obtain ⟨a, vs, rfl, hn, hl⟩ := l1.node s
    cases lk_leaf l2
    obtain ⟨v, e1, lk⟩ := atI_lk hl hf
    exact .inr (.inl ⟨a, vs, _, v, rfl, rfl, hn.2, e1, q v lk⟩)
  · split at hf
    · rename_i z i hz
      cases e1 : atI z.cps.toList i with
      | none => rw [e1] at hf; cases hf
      | some c =>
        rw [e1] at hf; cases hf
        cases lk_leaf l1; cases lk_leaf l2
        exact .inr (.inr ⟨z, i, c, rfl, rfl, hz, e1, q _ (.leaf rfl)⟩)
    · cases hf
  · cases hf
def mIx (a b : M D) : M D := mOp2 fIx a b
theorem qb_ix {a b : Expr} {ma mb : M D} (ha : QB T io X W p a ma) (hb : QB T io X W true b mb) (hs : PlainIx b := by exact fun _ _ => rfl) : QB T io X W p (.Subscript a b pos) (mIx ma mb) := fun G g => PE.imp (pe_ix ix_seq (ha G g) (hb G g) hs) fun _ _ _ h => imp2B ix_ok h

/-! ### slices -/
def QO (T : String → Option Addr) (io : Io) (X : Cx) (W : WX) (e : Option Expr) (m : M (Option Int)) : Prop := ∀ G, Pins io G → PO X e (fun σ H Q => ∃ F r t tv, Rl X.K T G F r t σ tv H ∧ (m r).sat (fun o r' => ∀ F' H', Same F F' → Same H H' → Rl X.K T G F' r' t σ tv H' → Q o H') (exP X.K T G W σ t tv F))
theorem PO.imp {X : Cx} {e : Option Expr} {t t' : TO} (h : PO X e t) (i : ∀ σ H Q, t' σ H Q → t σ H Q) : PO X e t' := ⟨fun pins s σ H Q I q => h.run pins s σ H Q I (i σ H Q q)⟩
def mPart (a : M D) : M (Option Int) := M.bind a fun d => M.bind (M.opt (int? d)) fun i => M.ret (some i)
theorem qo_none : QO T io X W none (M.ret none) := fun G g => PO.imp po_none fun σ H Q ⟨F, r, t, tv, h1, h2⟩ => h2 F H (Same.refl _) (Same.refl _) h1
theorem qo_some {e : Expr} {a : M D} (h : QB T io X W true e a) : QO T io X W (some e) (mPart a) := fun G g => PO.imp (po_some (h G g)) fun σ H Q ⟨F, r, t, tv, h1, h2⟩ => by
  refine ⟨F, r, t, tv, h1, (sat_bind h2).mono (fun d r1 q v F1 H1 s1 s2 h3 lk => ?_) fun _ _ q => q⟩
  obtain ⟨i, e, q⟩ := sat_opt (sat_bind q)
  exact ⟨i, lk_int lk e, q F1 H1 s1 (s2 rfl) h3⟩
def cutD (xs : List D) (lo hi : Option Int) : List D := (xs.drop (HT.sIx xs.length 0 lo)).take (HT.sIx xs.length xs.length hi - HT.sIx xs.length 0 lo)
def fSl (d : D) (lo hi : Option Int) : Option D := match d with
  | .node _ .lst ds => if (cutD ds lo hi).all D.shr = true then some (.lst true (cutD ds lo hi)) else none
  | .leaf (.str z) => if z.length ≤ sizeLine then some (.str (cutS z lo hi)) else none
  | _ => none
def mSl (a : M D) (lo hi : M (Option Int)) : M D := M.bind a fun d => M.bind lo fun i => M.bind hi fun j => M.opt (fSl d i j)
theorem all_cut {xs : List D} {n k : Nat} (h : xs.all D.shr = true) : ((xs.drop n).take k).all D.shr = true := by
  rw [List.all_eq_true] at h ⊢
  exact fun x hx => h x (List.mem_of_mem_drop (List.mem_of_mem_take hx))
theorem LkL.drop {K : PySem.W.Frag} {F H : Hp} : ∀ {ds : List D} {vs : List V} (n : Nat), LkL K T F H ds vs → LkL K T F H (ds.drop n) (vs.drop n)
  | _, _, 0, h => h
  | [], _, n + 1, h => by cases h; exact .nil
  | d :: ds, _, n + 1, h => by cases h with | cons a b => exact LkL.drop n b
theorem LkL.take {K : PySem.W.Frag} {F H : Hp} : ∀ {ds : List D} {vs : List V} (n : Nat), LkL K T F H ds vs → LkL K T F H (ds.take n) (vs.take n)
  | _, _, 0, h => .nil
  | [], _, n + 1, h => by cases h; exact .nil
  | d :: ds, _, n + 1, h => by cases h with | cons a b => exact .cons a (LkL.take n b)
theorem sl_ok : SlR X (fun x lo hi H Q => rSlL X.K x lo hi H Q ∨ rSlS x lo hi H Q) := sl_list.or sl_str
theorem qe_sl {a : Expr} {lo hi : Option Expr} {q2 : Pos} {ma : M D} {ml mh : M (Option Int)} (ha : QB T io X W p a ma) (hl : QO T io X W lo ml) (hh : QO T io X W hi mh) : QE T io X W p (.Subscript a (.Slice lo hi none q2) pos) (mSl ma ml mh) :=
  fun G g => PE.imp (pe_slice sl_ok (ha G g) (hl G g) (hh G g)) fun σ H Q ⟨F, r, t, tv, h1, h2⟩ => by
    refine ⟨F, r, t, tv, h1, (sat_bind h2).mono (fun d r1 q v F1 H1 s1 s2 h3 lk => ?_) fun _ _ q => q⟩
    refine ⟨F1, r1, t, tv, h3, (sat_bind q).mono (fun i r2 q F2 H2 s3 s4 h4 => ?_) fun _ _ q => q.trans s1⟩
    refine ⟨F2, r2, t, tv, h4, (sat_bind q).mono (fun j r3 q F3 H3 s5 s6 h5 => ?_) fun _ _ q => q.trans (s1.trans s3)⟩
    obtain ⟨d', e, q⟩ := sat_opt q
    have lk := (lk.mono s3 s4).mono s5 s6
    unfold fSl at e
    split at e
    · split at e
      · rename_i hs
        cases e
        obtain ⟨b, vs, rfl, hn, hl⟩ := lk.node h5.sub
        refine .inl ⟨b, vs, rfl, hn.2, fun c hc => ?_⟩
        have hcl : ∀ {ds' : List D}, LkL X.K T F3 H3 ds' vs → LkL X.K T F3 H3 (cutD ds' i j) (cutV vs i j) := fun {ds'} hl => by
          unfold cutD cutV
          rw [hl.length]
          exact (hl.drop _).take _
        have hcl := hcl hl
        obtain ⟨F4, s7, h6, s8⟩ := h5.res (.new (k := .lst) (vs := cutV vs i j) (fun _ _ z => nomatch z) trivial (hcl.shr hs) hc)
        exact q (.ref c) F4 _ (((s1.trans s3).trans s5).trans s7) (fun z => (((s2 z).trans s4).trans s6).trans s8) h6
      · cases e
    · split at e
      · rename_i hz
        cases e
        refine .inr ⟨_, lk_leaf lk, hz, ?_⟩
        exact q _ F3 H3 ((s1.trans s3).trans s5) (fun z => ((s2 z).trans s4).trans s6) (h5.push (.leaf rfl))
      · cases e
    · cases e

/-! ### list methods on a name -/
theorem Rl.swap {K : PySem.W.Frag} {G : Gm} {F H : Hp} {r : VS} {t : List D} {σ : L2.St} {tv : List V} {d e : D} {v u : V} (h : Rl K T G F r (d :: e :: t) σ (v :: u :: tv) H) : Rl K T G F r (e :: d :: t) σ (u :: v :: tv) H :=
  Rl.lift (ds := [d]) (vs := [v]) rfl h
def ownL? (i : Nat) (r : VS) : Option (List D) := match slot? i r with
  | some (.node true .lst ds) => some ds
  | _ => none
theorem ownL?_eq {i : Nat} {r : VS} {ds : List D} (h : ownL? i r = some ds) : slot? i r = some (.node true .lst ds) := by
  unfold ownL? at h
  split at h
  · rename_i e; cases h; exact e
  · cases h
def isL (i : Nat) (r : VS) : Bool := match slot? i r with
  | some (.node _ .lst _) => true
  | _ => false
theorem isL_lk {K : PySem.W.Frag} {G : Gm} {F H : Hp} {r : VS} {t : List D} {σ : L2.St} {tv : List V} {i : Nat} (h : Rl K T G F r t σ tv H) (e : isL i r = true) : ∃ a vs, σ[i]? = some (some (.ref a)) ∧ SqL K H a vs := by
  unfold isL at e
  split at e
  · rename_i e1
    obtain ⟨v, ev, lk⟩ := h.look (slot?_eq e1)
    obtain ⟨a, vs, rfl, hn, _⟩ := lk.node h.sub
    exact ⟨a, vs, ev, hn.2⟩
  · cases e
/-- x.append(e) -/
def mAppend (i : Nat) (a : M D) : M D := fun r => if isL i r = true then M.bind a (fun d r' => match ownL? i r' with
  | some ds => if ds.length < sizeLine then .ok .non (r'.set i (some (.lst true (ds ++ [d])))) else .no
  | none => .no) r else .no
theorem qe_append {i : Nat} {x : Str} {e : Expr} {apos np : Pos} {a : M D} (hN : X.N[i]? = some x) (hv : Vis X.env.scope x) (ha : QE T io X W p e a) (hd : (x == ("__debug__" : Str)) = false := by decide) (hcd : (x == ("__classdict__" : Str)) = false := by decide)
    (hst : starEach [e] X.env = [(false, eval e X.env)] := by rfl)
    (hbase : attributeBase (.Name x np) ("append" : Str) X.env (eval (.Name x np) X.env) = eval (.Name x np) X.env := by rfl)
    (hfew : ((backTo pos (starEach [e] X.env)).all (fun x => !x.1) && (backToKw pos (keywordEach [] X.env)).all (fun x => x.1.isSome) && decide (([e] : List Expr).length + ([] : List Keyword).length + (if ([] : List Keyword).isEmpty then 0 else 1) < 30)) = true := by rfl)
    (hline : (apos.endLine == pos.line) = true := by rfl) (hplain : (backTo pos (starEach [] X.env)).any (·.1) = false := by rfl) :
    QE T io X W false (.Call (.Attribute (.Name x np) "append" apos) [e] [] pos) (mAppend i a) := fun G g => PE.imp (pe_bm PySem.F.plainAttrs_list PySem.F.slot_list_append PySem.F.type_list_append mt_append (pe_var hN hv hd hcd) (pa_cons (ha G g) pa_nil hst) hbase hfew hline hst hplain) fun σ H Q ⟨F, r, t, tv, h1, h2⟩ => by
  unfold mAppend at h2
  split at h2
  · rename_i hL
    obtain ⟨c, vs0, ec, hc⟩ := isL_lk h1 hL
    refine ⟨_, ec, .inl ⟨rfl, vs0, hc⟩, F, r, t, tv, h1, (sat_bind h2).mono (fun d r1 q v F1 H1 s1 s2 h3 => ?_) fun _ _ q => q⟩
    cases e1 : ownL? i r1 with
    | none => rw [e1] at q; exact q.elim
    | some ds =>
      rw [e1] at q
      dsimp only at q
      split at q
      · rename_i hz
        have es := slot?_eq (ownL?_eq e1)
        obtain ⟨x, ex, h4⟩ := h3.take es
        rw [ec] at ex
        have ex : V.ref c = x := Option.some.inj (Option.some.inj ex)
        subst ex
        obtain ⟨vs, e2, hl, h5⟩ := h4.swap.appendTop (vs := [])
        refine ⟨c, vs, v, rfl, rfl, e2, by rw [← hl]; exact hz, ?_⟩
        have hi : i < (r1.set i none).length := by rw [List.length_set]; exact (List.getElem?_eq_some_iff.mp es).1
        have h6 := h5.put hi fun w ew => by
          have := h5.pin i w ew
          rw [ec] at this
          exact Option.some.inj (Option.some.inj this)
        rw [List.set_set, set_same ec] at h6
        exact q .non F1 _ s1 (fun z => nomatch z) (h6.push (.leaf rfl))
      · exact q.elim
  · exact h2.elim

/-! ### isinstance -/
/-- the built-in type of plain data -/
def tyD : D → String
  | .leaf .non => "NoneType"
  | .leaf (.bl _) => "bool"
  | .leaf (.int _) => "int"
  | .leaf (.str _) => "str"
  | .node _ .lst _ => "list"
  | .node _ .tup _ => "tuple"
  | .node _ _ _ => "dict"
def noIns : D → Bool
  | .node _ (.ins _ _) _ => false
  | .node _ (.dit _) _ => false
  | _ => true
theorem ty_lk {K : PySem.W.Frag} {F H : Hp} {d : D} {v : V} (l : Lk K T F H d v) (s : Same F H) (h : noIns d = true) : TyX K H v (.type (tyD d)) := by
  cases d with
  | leaf sc =>
    have z := lk_leaf l
    cases sc with
    | non => cases z; exact .base .non
    | bl b => cases z; exact .base (.bl b)
    | int b => cases z; exact .base (.int b)
    | str b => cases z; exact .base (.str b)
  | node o k ds =>
    obtain ⟨a, vs, rfl, hn, hl⟩ := l.node s
    cases k with
    | lst =>
      rcases hn.2 with (z | ⟨ob, z⟩) | ⟨ob, its, n, z, z2, _⟩
      · exact .base (.lst z)
      · exact .base (.frz z)
      · exact .kList z z2
    | tup =>
      rcases hn.2 with (z | ⟨ob, z⟩) | ⟨ob, its, n, z, z2, _⟩
      · exact .base (.tup z)
      · exact .fTuple z
      · exact .kTuple z z2
    | dic ks =>
      rcases hn.2 with z | ⟨ob, z⟩
      · exact .base (.dK z)
      · exact .fDict z
    | dit ks =>
      cases h
    | ins c fs => cases h
/-- the test of a type: f tells it for each of the seven -/
def Isi (K : PySem.W.Frag) (u : Value) (f : String → Bool) : Prop := ∀ t, t ∈ ["NoneType", "bool", "int", "str", "list", "tuple", "dict"] → PySem.W.kitOne K (.type t) u = some (f t)
theorem tyD_mem (d : D) : tyD d ∈ ["NoneType", "bool", "int", "str", "list", "tuple", "dict"] := by
  unfold tyD
  split <;> simp
def isiB (b t : String) : Bool := (kitB t b).getD false
theorem isi_ty {K : PySem.W.Frag} {b : String} (h : (["NoneType", "bool", "int", "str", "list", "tuple", "dict"].all fun t => (kitB t b).isSome) = true) : Isi K (.type b) (isiB b) := fun t ht => by
  have := List.all_eq_true.mp h t ht
  obtain ⟨r, e⟩ := Option.isSome_iff_exists.mp this
  unfold isiB
  rw [e]
  exact kit_ty e
def mIsi (f : String → Bool) (a : M D) : M D := M.bind a fun d => M.bind (M.ck (noIns d)) fun _ => M.ret (.bl (f (tyD d)))
theorem qe_isi {a c : Expr} {p0 : Pos} {ma : M D} {cv : V} {u : Value} {f : String → Bool} (ha : QB T io X W p a ma) (hc : PE X c (tC cv)) (k : ClsV cv u) (hi : Isi X.K u f) (hg : Gl X "isinstance") (hm : X.mg "isinstance" = none)
    (hs1 : starEach [a, c] X.env = (false, eval a X.env) :: starEach [c] X.env := by rfl) (hs2 : starEach [c] X.env = [(false, eval c X.env)] := by rfl) : QE T io X W p (.Call (.Name "isinstance" p0) [a, c] [] pos) (mIsi f ma) :=
  fun G g => PE.imp (pe_callB call_isi hg hm (by decide +kernel) (pa_cons (ha G g) (pa_cons hc pa_nil hs2) hs1) (he := hs1) (hpl := by rw [hs2]; rfl)) fun σ H Q ⟨F, r, t, tv, h1, h2⟩ => by
    refine ⟨F, r, t, tv, h1, (sat_bind h2).mono (fun d r1 q v F1 H1 s1 s2 h3 lk => ?_) fun _ _ q => q⟩
    obtain ⟨hn, q⟩ := sat_ck (sat_bind q)
    exact ⟨v, cv, .type (tyD d), u, f (tyD d), rfl, k, ty_lk lk h3.sub hn, hi _ (tyD_mem d), q (.bl _) F1 H1 s1 s2 (h3.push (.leaf rfl))⟩
end
end VL

/-! VL10: sources of loops, calls that leave the caller's data, except .. as, chains. -/
namespace VL
open PySem PySem.Spec L2

section
variable {T : String → Option Addr} {io : Io} {X : Cx} {W : WX} {p p1 p2 : Bool} {pos : Pos}

/-! ### sources -/
/-- what is walked: the items, frozen -/
def tI (K : PySem.W.Frag) (T : String → Option Addr) (G : Gm) (W : WX) (p : Bool) (m : M (List D)) : TI := fun σ H R => ∃ F r t tv, Rl K T G F r t σ tv H ∧
  (m r).sat (fun ds r' => ∀ F' H' J Pv, Same F F' → (p = true → Same H H') → Rl K T G F' r' t σ tv H' → Walks K T J F' ds Pv → (∀ F2 H2, Same F' F2 → Same F2 H2 → Pv H2) → R J H') (exP K T G W σ t tv F)
theorem PI.imp {X : Cx} {tg e : Expr} {t t' : TI} (h : PI X tg e t) (i : ∀ σ H R, t' σ H R → t σ H R) : PI X tg e t' := ⟨fun pins s σ H R I q => h.run pins s σ H R I (i σ H R q)⟩
def QI (T : String → Option Addr) (io : Io) (X : Cx) (W : WX) (p : Bool) (tg e : Expr) (m : M (List D)) : Prop := ∀ G, Pins io G → PI X tg e (tI X.K T G W p m)
def seq? : D → Option (List D)
  | .node _ .lst ds => some ds
  | .node _ .tup ds => some ds
  | _ => none
def iSeq (a : M D) : M (List D) := M.bind a fun d => M.bind (M.opt (seq? d)) fun ds => M.ret (D.frzL ds)
/-- a list or a tuple -/
def iLT (K : PySem.W.Frag) (tl : TE) : TI := fun σ H R => tl σ H fun x H1 => ∃ a, x = .ref a ∧ ((∃ xs, SqL K H1 a xs) ∧ R (Itl K a) H1 ∨ (∃ xs, SqT K H1 a xs) ∧ R (Itt K a) H1)
theorem pi_lt {tg l : Expr} {tl : TE} (hl : PE X l tl) : PI X tg l (iLT X.K tl) := by
  refine ⟨fun pins s σ H R I h => ?_⟩
  refine thn (hl.run pins s σ H _ I h) fun v s1 ⟨x, H1, I1, r1, q1⟩ => ?_
  obtain ⟨a, e, ⟨⟨xs, hq⟩, q⟩ | ⟨⟨xs, hq⟩, q⟩⟩ := q1
  · subst e
    cases r1
    obtain ⟨its, rv, p, hz⟩ := I1.list hq
    refine wpAny_pyIter_list p.isList ?_
    refine ⟨s1.heap.objs.size, [s1.heap.objs.size], _, _, H1, rfl, I1.kept (t' := s1.toks) fun b o e => Heap.get?_push_of_some _ e, turn_list a _, ⟨_, Heap.get?_push_size _ rfl, rfl, rfl⟩, fun b hb => ?_, q⟩
    have e : b = s1.heap.objs.size := by simpa using hb
    subst e
    exact I1.fpOk (Nat.le_refl _) (I1.hok.fresh (Nat.le_refl _))
  · subst e
    cases r1
    obtain ⟨its, rv, p, hz⟩ := I1.tuple hq
    refine wpAny_pyIter_tuple (show s1.heap.IsTuple a its.toArray from p) ?_
    refine ⟨s1.heap.objs.size, [s1.heap.objs.size], _, _, H1, rfl, I1.kept (t' := s1.toks) fun b o e => Heap.get?_push_of_some _ e, turn_tuple a _, ⟨_, Heap.get?_push_size _ rfl, rfl, rfl⟩, fun b hb => ?_, q⟩
    have e : b = s1.heap.objs.size := by simpa using hb
    subst e
    exact I1.fpOk (Nat.le_refl _) (I1.hok.fresh (Nat.le_refl _))
theorem qi_seq {tg e : Expr} {a : M D} (h : QE T io X W p e a) : QI T io X W p tg e (iSeq a) := fun G g => PI.imp (pi_lt (h G g)) fun σ H R ⟨F, r, t, tv, h1, h2⟩ => by
  refine ⟨F, r, t, tv, h1, (sat_bind h2).mono (fun d r1 q v F1 H1 s1 z1 h3 => ?_) fun _ _ q => q⟩
  obtain ⟨ds, e, q⟩ := sat_opt (sat_bind q)
  unfold seq? at e
  split at e
  · cases e
    obtain ⟨F2, s2, h4, fz⟩ := h3.freeze
    cases fz with
    | @node a k vs _ hn hl =>
      have hq : SqL X.K F2 a vs := hn.2
      exact ⟨a, rfl, .inl ⟨⟨vs, h4.sub.seq hq⟩, q F2 H1 _ _ (s1.trans s2) z1 h4.drop (walks_list' hl) fun F' H' s3 s4 => s4.seq (s3.seq hq)⟩⟩
  · cases e
    obtain ⟨F2, s2, h4, fz⟩ := h3.freeze
    cases fz with
    | @node a k vs _ hn hl =>
      have hq : SqT X.K F2 a vs := hn.2
      exact ⟨a, rfl, .inr ⟨⟨vs, SqT.mono h4.sub hq⟩, q F2 H1 _ _ (s1.trans s2) z1 h4.drop (walks_tup hl) fun F' H' s3 s4 => SqT.mono s4 (SqT.mono s3 hq)⟩⟩
  · cases e
def iRg1 (a : M D) : M (List D) := M.bind a fun d => M.bind (M.opt (int? d)) fun j => M.bind (M.ck (bnd j)) fun _ => M.ret (rangeL 0 j.toNat)
def iRg2 (a b : M D) : M (List D) := M.bind a fun d => M.bind b fun e => M.bind (M.opt (int? d)) fun i => M.bind (M.opt (int? e)) fun j => M.bind (M.ck (bnd i && bnd j)) fun _ => M.ret (rangeL i (j - i).toNat)
theorem qi_range1 {tg a : Expr} {ma : M D} {p0 : Pos} (ha : QB T io X W p a ma) (hg : Gl X "range") (hm : X.mg "range" = none) (hst : starEach [a] X.env = [(false, eval a X.env)] := by rfl) : QI T io X W p tg (.Call (.Name "range" p0) [a] [] pos) (iRg1 ma) :=
  fun G g => PI.imp (pi_range1 hg hm (pa_cons (ha G g) pa_nil hst) hst) fun σ H R ⟨F, r, t, tv, h1, h2⟩ => by
    refine ⟨F, r, t, tv, h1, (sat_bind h2).mono (fun d r1 q v F1 H1 s1 z1 h3 lk => ?_) fun _ _ q => q⟩
    obtain ⟨j, e, q⟩ := sat_opt (sat_bind q)
    obtain ⟨bj, q⟩ := sat_ck (sat_bind q)
    obtain ⟨b1, b2⟩ := bnd_of bj
    exact ⟨j, by rw [lk_int lk e], b1, b2, q F1 H1 _ _ s1 z1 h3 (walks_range 0 j.toNat) fun _ _ _ _ => trivial⟩
theorem qi_range2 {tg a b : Expr} {ma mb : M D} {p0 : Pos} (ha : QB T io X W p a ma) (hb : QB T io X W true b mb) (hg : Gl X "range") (hm : X.mg "range" = none)
    (hs : starEach [a, b] X.env = [(false, eval a X.env), (false, eval b X.env)] := by rfl) (hs2 : starEach [b] X.env = [(false, eval b X.env)] := by rfl) : QI T io X W p tg (.Call (.Name "range" p0) [a, b] [] pos) (iRg2 ma mb) :=
  fun G g => PI.imp (pi_range2 hg hm (pa_cons (ha G g) (pa_cons (hb G g) pa_nil hs2) (hs.trans (by rw [hs2]))) hs hs2) fun σ H R ⟨F, r, t, tv, h1, h2⟩ => by
    refine ⟨F, r, t, tv, h1, (sat_bind h2).mono (fun d r1 q v F1 H1 s1 z1 h3 lk => ?_) fun _ _ q => q⟩
    refine ⟨F1, r1, t, tv, h3, (sat_bind q).mono (fun d2 r2 q v2 F2 H2 s2 z2 h4 lk2 => ?_) fun _ _ q => q.trans s1⟩
    obtain ⟨i, e, q⟩ := sat_opt (sat_bind q)
    obtain ⟨j, e2, q⟩ := sat_opt (sat_bind q)
    obtain ⟨bj, q⟩ := sat_ck (sat_bind q)
    obtain ⟨bi, bj⟩ := Bool.and_eq_true_iff.mp bj
    obtain ⟨b1, b2⟩ := bnd_of bi
    obtain ⟨b3, b4⟩ := bnd_of bj
    exact ⟨i, j, by rw [lk_int lk e, lk_int lk2 e2], ⟨b1, b2, b3, b4⟩, q F2 H2 _ _ (s1.trans s2) (fun z => (z1 z).trans (z2 rfl)) h4 (walks_range i (j - i).toNat) fun _ _ _ _ => trivial⟩
def mFor (src : M (List D)) (g : Gt) (b : M Fl) : M Fl := M.bind src (mForL g b)
theorem qs_for {tg src : Expr} {body : List Stmt} {ms : M (List D)} {g : Gt} {sl : List Nat} {pg : Bool} {mb : M Fl} (hp : PassesOwn (model X.prog X.w) X.A X.env X.xe) (hc : X.calm = true) (hsrc : QI T io X W p tg src ms) (hgt : QG T io X sl pg tg g) (hb : QSs T io X W body mb)
    (hs : ∀ x, foldedSetIterable src X.env x = pure x := by intro _; rfl) : QS T io X W (.For tg src body [] pos) (mFor ms g mb) :=
  fun G gg => PS.imp (ps_for hp hc (hsrc G gg) (hgt G gg) (hb G gg) hs) fun B σ H ⟨F, r, t, tv, h1, h2⟩ =>
    ⟨F, r, t, tv, h1, (sat_bind h2).mono (fun ds r1 q F1 H1 J Pv s1 _ h3 w hv => for_walks (tg := tg) (gt := tG X.K T G sl pg g) (tb := tS X.K T G W mb) (body := body) w hv h3 (q.mono (fun _ _ q => q.trans s1) fun _ _ q => q.trans s1)) fun _ _ q => q.toP⟩

/-! ### comprehensions over a source -/
def lcRun (own : List Nat) (g : Gt) (c : M Bool) (el : M D) (ds : List D) : M D := fun r => match lcL own g c el ds [] r with
  | .ok ys r' => .ok (.lst true ys) (unhide own r r')
  | _ => .no
theorem lcRun_calm {own : List Nat} {g : Gt} {c : M Bool} {el : M D} {ds : List D} {r : VS} {ok : D → VS → Prop} {ex : String → VS → Prop} (h : (lcRun own g c el ds r).sat ok ex) : (lcRun own g c el ds r).sat ok fun _ _ => False := by
  unfold lcRun at h ⊢
  cases e2 : lcL own g c el ds [] r with
  | no => rw [e2] at h; exact h.elim
  | ex _ _ => rw [e2] at h; exact h.elim
  | ok ys r2 => rw [e2] at h; exact h
def mComp (own : List Nat) (src : M (List D)) (g : Gt) (c : M Bool) (el : M D) : M D := M.bind src (lcRun own g c el)
theorem lc_te {own : List Nat} {src : M (List D)} {g : Gt} {c : M Bool} {el : M D} {sl : List Nat} {pg : Bool} {G : Gm} (gp : Pins io G) (hsl : ∀ j ∈ sl, j ∈ own) (hio : ∀ j ∈ io.l, j ∉ own) {σ : L2.St} {H : Hp} {Q : VK}
    (h : tE X.K T G W (p && (pg && (p1 && p2))) (mComp own src g c el) σ H Q) : tLc (tI X.K T G W p src) (tG X.K T G sl pg g) (tT X.K T G W0 p1 c) (tE X.K T G W0 p2 el) own σ H Q := by
  obtain ⟨F, r, t, tv, h1, h2⟩ := h
  refine ⟨F, r, t, tv, h1, (sat_bind h2).mono (fun ds r1 q F1 H1 J Pv s1 z1 h3 w hv => ?_) fun _ _ q => q⟩
  have q2 := lcRun_calm q
  exact lc_imp w hv hsl (fun i v e => hio i (gp.1 i v e)) h3 (q2.mono (fun d r' q v F' H' s3 z3 h5 => q v F' H' (s1.trans s3) (fun z => (z1 (andL z)).trans (z3 (andR z))) h5) fun _ _ q => q)
theorem qe_comp {elt tg src : Expr} {ifs : List Expr} {scope : Scope} {own : List (Str × Nat)} {ms : M (List D)} {el : M D} {g : Gt} {sl : List Nat} {pg : Bool} {c : M Bool} (hc : X.calm = true) (hN : X.N.Nodup) (ok : BlkOk X.N X.env.scope scope own) (hsrc : QI T io X W p tg src ms)
    (hg : ∀ (s : Shared) (H : Hp) (C : Addr) (cl : List (Str × Addr)) (fp : List Addr), QG T io (X.blk s H scope (compEnvC scope cl C X.env) fp) sl pg tg g) (ht : ∀ (s : Shared) (H : Hp) (C : Addr) (cl : List (Str × Addr)) (fp : List Addr), QTs T io (X.blk s H scope (compEnvC scope cl C X.env) fp) W0 p1 ifs c)
    (he : ∀ (s : Shared) (H : Hp) (C : Addr) (cl : List (Str × Addr)) (fp : List Addr), QE T io (X.blk s H scope (compEnvC scope cl C X.env) fp) W0 p2 elt el) (hsl : ∀ j ∈ sl, j ∈ own.map (·.2)) (hio : ∀ j ∈ io.l, j ∉ own.map (·.2)) (hs : ∀ x, foldedSetIterable src X.env x = pure x := by intro _; rfl) :
    QE T io X W (p && (pg && (p1 && p2))) (.ListComp elt [⟨tg, src, ifs, 0⟩] scope pos) (mComp (own.map (·.2)) ms g c el) := fun G gp =>
  PE.imp (pe_lc hc hN (hsrc G gp) ok (fun s H C cl fp => hg s H C cl fp G gp) (fun s H C cl fp => ht s H C cl fp G gp) (fun s H C cl fp => he s H C cl fp G gp) hs) fun σ H Q h => lc_te gp hsl hio h
/-- y = [..] on one line -/
theorem qs_setComp {i : Nat} {y : Str} {py spos : Pos} {elt tg src : Expr} {ifs : List Expr} {scope : Scope} {own : List (Str × Nat)} {ms : M (List D)} {el : M D} {g : Gt} {sl : List Nat} {pg : Bool} {c : M Bool} (hc : X.calm = true) (hN : X.N.Nodup) (hy : X.N[i]? = some y) (hyl : X.env.scope.names.lookup y = some .local)
    (hsw : swapsWith (.ListComp elt [⟨tg, src, ifs, 0⟩] scope pos) (some (.Name y py)) spos.line X.env = pure true) (ok : BlkOk X.N X.env.scope scope own) (hsrc : QI T io X W p tg src ms) (hyo : i ∉ io.l)
    (hg : ∀ (s : Shared) (H : Hp) (C : Addr) (cl : List (Str × Addr)) (fp : List Addr), QG T io (X.blk s H scope (compEnvC scope cl C X.env) fp) sl pg tg g) (ht : ∀ (s : Shared) (H : Hp) (C : Addr) (cl : List (Str × Addr)) (fp : List Addr), QTs T io (X.blk s H scope (compEnvC scope cl C X.env) fp) W0 p1 ifs c)
    (he : ∀ (s : Shared) (H : Hp) (C : Addr) (cl : List (Str × Addr)) (fp : List Addr), QE T io (X.blk s H scope (compEnvC scope cl C X.env) fp) W0 p2 elt el) (hsl : ∀ j ∈ sl, j ∈ own.map (·.2)) (hio : ∀ j ∈ io.l, j ∉ own.map (·.2)) (hs : ∀ x, foldedSetIterable src X.env x = pure x := by intro _; rfl) :
    QS T io X W (.Assign [.Name y py] (.ListComp elt [⟨tg, src, ifs, 0⟩] scope pos) spos) (mAsg (mComp (own.map (·.2)) ms g c el) (gPut i)) := fun G gp =>
  PS.imp (ps_setLc hc hN hy hyl hsw (hsrc G gp) ok (fun s H C cl fp => hg s H C cl fp G gp) (fun s H C cl fp => ht s H C cl fp G gp) (fun s H C cl fp => he s H C cl fp G gp) hs) fun B σ H ⟨F, r, t, tv, h1, h2⟩ => by
    refine lc_te (p := p) (p1 := p1) (p2 := p2) (pg := pg) gp hsl hio ⟨F, r, t, tv, h1, (sat_bind h2).mono (fun d r1 q v F1 H1 s1 s2 h3 => ?_) fun _ _ q => q.toP⟩
    obtain ⟨r', e, q⟩ := sat_to q
    unfold gPut at e
    split at e
    · rename_i hl
      cases e
      exact q _ F1 H1 s1 (h3.put hl fun w e => absurd (gp.1 i w e) hyo)
    · cases e

/-! ### calls that leave the caller's data -/
theorem FzL.owl {K : PySem.W.Frag} {F H : Hp} {P : Ft} (hP : ∀ a, ¬ P a) : ∀ {ds : List D} {vs : List V}, FzL K T F ds vs → OwL K T F H ds vs P
  | [], _, h => by cases h; exact .nil hP
  | d :: ds, _, h => by
    cases h with
    | @cons _ v _ vs h1 h2 =>
      have o : ∃ A, Ow K T F H d v A ∧ ∀ a, ¬ A a := by
        cases h1 with
        | leaf z => exact ⟨fun _ => False, .leaf z fun _ q => q, fun _ q => q⟩
        | node z1 z2 => exact ⟨fun _ => False, .fz (.node z1 z2) fun _ q => q, fun _ q => q⟩
      obtain ⟨A, o, hA⟩ := o
      exact .cons o (FzL.owl (P := fun _ => False) (fun _ q => q) h2) (fun a q _ => hA a q) fun a => ⟨fun q => (hP a q).elim, fun q => q.elim (fun q => (hA a q).elim) False.elim⟩

theorem Rl.freezeN {K : PySem.W.Frag} {G : Gm} {H : Hp} {r : VS} {t : List D} {σ : L2.St} {tv : List V} : ∀ {ds : List D} {vs : List V} {F : Hp}, ds.length = vs.length → Rl K T G F r (ds ++ t) σ (vs ++ tv) H → ∃ F', Same F F' ∧ Rl K T G F' r t σ tv H ∧ FzL K T F' (D.frzL ds) vs
  | [], [], F, _, h => ⟨F, Same.refl _, h, .nil⟩
  | [], _ :: _, _, hl, _ => by simp at hl
  | _ :: _, [], _, hl, _ => by simp at hl
  | d :: ds, v :: vs, F, hl, h => by
    obtain ⟨F1, s1, h1, f1⟩ := Rl.freeze (t := ds ++ t) (tv := vs ++ tv) h
    obtain ⟨F2, s2, h2, f2⟩ := Rl.freezeN (ds := ds) (vs := vs) (by simpa using hl) h1.drop
    exact ⟨F2, s1.trans s2, h2, .cons (f1.mono s2) f2⟩
/-- f(..): the arguments frozen -/
def runF (fn : Fn) (ds : List D) : M D := fun r => match fn ds with
  | .ok d [] => .ok d r
  | .ex c [] => .ex c r
  | _ => .no
def mCallF (np : Nat) (fn : Fn) (args : M (List D)) : M D := M.bind args fun ds => M.bind (M.ck (decide (ds.length = np))) fun _ => runF fn (D.frzL ds)
theorem frzL_length (ds : List D) : (D.frzL ds).length = ds.length := by rw [frzL_map, List.length_map]
theorem callF_imp {K : PySem.W.Frag} {G : Gm} {F H : Hp} {r : VS} {t : List D} {σ : L2.St} {tv : List V} {ds : List D} {vs : List V} {fn : Fn} {np : Nat} {Q : VK}
    (hf : FzL K T F ds vs) (hn : ds.length = np) (h : Rl K T G F r t σ tv H)
    (q : (runF fn ds r).sat (fun d r' => ∀ v F' H', Same F F' → Same H H' → Rl K T G F' r' (d :: t) σ (v :: tv) H' → Q v H') (exP K T G W σ t tv F)) : spV K T np [] fn vs H Q (WE W σ) := by
  obtain ⟨A, g1, after⟩ := Rl.split (ds := []) (vs := []) rfl h
  have hA : ∀ a, ¬ A a := by cases g1 with | nil e => exact e
  refine ⟨F, ds, A, hf.owl hA, h.sub, hn, ?_⟩
  have nov : ∀ {vo : List V}, vo.map some = ([] : List Nat).map (fun i => vs[i]?) → vo = [] := fun {vo} e => by cases vo with | nil => rfl | cons _ _ => cases e
  unfold runF at q
  cases e : fn ds with
  | no => rw [e] at q; exact q
  | ok d os =>
    rw [e] at q
    cases os with
    | cons _ _ => exact q.elim
    | nil =>
      intro v F' H' vo P' w1 w2 w3
      cases nov w3
      exact q v F' H' w2.fr (fun a o e => w2.keep a o e (hA a)) (after F' H' _ _ P' w1 w2)
  | ex c os =>
    rw [e] at q
    cases os with
    | cons _ _ => exact q.elim
    | nil =>
      intro C F' H' vo P' hT w1 w2 w3
      cases nov w3
      exact q C F' H' hT w2.fr (after F' H' _ _ P' w1 w2)
theorem qe_callF {e : Expr} {es : List Expr} {x : Str} {pp : Pos} {k : Nat} {f : Addr} {fd : FuncData} {ps : List Str} {np : Nat} {fn : Fn} {a : M (List D)}
    (F : FnOk X.prog X.w X.K X.mg X.base (L2.CX X.prog X.w) k f fd ps (spV X.K T np [] fn)) (hr : Room k X.A) (hg : Gl X x) (hm : X.mg x = some (.ref f)) (hk : PySem.W.keepIn X.K (.ref f) = true) (hb : Binds X.K fd ps []) (tk : Takes X W)
    (ha : QA T io X W p (e :: es) a) (hdb : (x == ("__debug__" : Str)) = false := by decide) (he : starEach (e :: es) X.env = (false, eval e X.env) :: starEach es X.env := by rfl) (hpl : (backTo pos (starEach es X.env)).any (·.1) = false := by rfl) :
    QE T io X W p (.Call (.Name x pp) (e :: es) [] pos) (mCallF np fn a) := fun G g => PE.imp (pe_callS F hr hg hm hk hb (fun σ => passAt tk σ) (ha G g) hdb he hpl) fun σ H Q ⟨F0, r, t, tv, h1, h2⟩ => by
  refine ⟨F0, r, t, tv, h1, (sat_bind h2).mono (fun ds r1 q vs F1 H1 s1 z1 hl h3 => ?_) fun _ _ q => q⟩
  obtain ⟨hn, q⟩ := sat_ck (sat_bind q)
  obtain ⟨F2, s2, h4, hf⟩ := Rl.freezeN hl h3
  exact callF_imp hf ((frzL_length ds).trans (of_decide_eq_true hn)) h4 (q.mono (fun d r' q v F' H' s3 z3 h5 => q v F' H' ((s1.trans s2).trans s3) (fun z => (z1 z).trans z3) h5) fun _ _ q => q.trans (s1.trans s2))
theorem qe_callF0 {x : Str} {pp : Pos} {k : Nat} {f : Addr} {fd : FuncData} {ps : List Str} {fn : Fn}
    (F : FnOk X.prog X.w X.K X.mg X.base (L2.CX X.prog X.w) k f fd ps (spV X.K T 0 [] fn)) (hr : Room k X.A) (hg : Gl X x) (hm : X.mg x = some (.ref f)) (hk : PySem.W.keepIn X.K (.ref f) = true) (hb : Binds X.K fd ps []) (tk : Takes X W)
    (hdb : (x == ("__debug__" : Str)) = false := by decide) :
    QE T io X W true (.Call (.Name x pp) [] [] pos) (runF fn []) := fun G g => PE.imp (pe_callS0 F hr hg hm hk hb (fun σ => passAt tk σ) hdb) fun σ H Q ⟨F0, r, t, tv, h1, h2⟩ =>
  callF_imp (.nil) rfl h1 (h2.mono (fun d r' q v F' H' s3 z3 h5 => q v F' H' s3 (fun _ => z3) h5) fun _ _ q => q)
/-- f(..): the arguments looked at; the answer is a plain value -/
def runB (fn : Fn) (ds : List D) : M D := fun r => match fn ds with
  | .ok (.leaf d) [] => .ok (.leaf d) r
  | .ex c [] => .ex c r
  | _ => .no
def mCallB (np : Nat) (fn : Fn) (args : M (List D)) : M D := M.bind args fun ds => M.bind (M.ck (decide (ds.length = np))) fun _ => runB fn (D.frzL ds)
theorem callB_imp {K : PySem.W.Frag} {G : Gm} {F H : Hp} {r : VS} {t : List D} {σ : L2.St} {tv : List V} {ds : List D} {vs : List V} {fn : Fn} {np : Nat} {Q : VK}
    (hf : LkL K T F H ds vs) (hn : ds.length = np) (h : Rl K T G F r t σ tv H)
    (q : (runB fn (D.frzL ds) r).sat (fun d r' => ∀ v H', Same H H' → Rl K T G F r' (d :: t) σ (v :: tv) H' → Q v H') (exP K T G W σ t tv F)) : spV K T np [] fn vs H Q (WE W σ) := by
  refine ⟨H, D.frzL ds, fun _ => False, (hf.seen h.sub).owl fun _ q => q, Same.refl _, (frzL_length ds).trans hn, ?_⟩
  have nov : ∀ {vo : List V}, vo.map some = ([] : List Nat).map (fun i => vs[i]?) → vo = [] := fun {vo} e => by cases vo with | nil => rfl | cons _ _ => cases e
  unfold runB at q
  cases e : fn (D.frzL ds) with
  | no => rw [e] at q; exact q
  | ok d os =>
    rw [e] at q
    cases os with
    | cons _ _ => cases d <;> exact q.elim
    | nil =>
      cases d with
      | node _ _ _ => exact q.elim
      | leaf sc =>
        intro v F' H' vo P' w1 w2 w3
        cases nov w3
        have z : ScV sc v := by
          cases w1 with
          | cons o _ _ _ => cases o with | leaf z _ => exact z
        have s : Same H H' := fun a o e => w2.keep a o e fun q => q
        exact q v H' s ((h.grow s).push (.leaf z))
  | ex c os =>
    rw [e] at q
    cases os with
    | cons _ _ => exact q.elim
    | nil =>
      intro C F' H' vo P' hT w1 w2 w3
      have s : Same H H' := fun a o e => w2.keep a o e fun q => q
      exact q C F H' hT (Same.refl _) (h.grow s)
theorem qe_callL {e : Expr} {es : List Expr} {x : Str} {pp : Pos} {k : Nat} {f : Addr} {fd : FuncData} {ps : List Str} {np : Nat} {fn : Fn} {a : M (List D)}
    (F : FnOk X.prog X.w X.K X.mg X.base (L2.CX X.prog X.w) k f fd ps (spV X.K T np [] fn)) (hr : Room k X.A) (hg : Gl X x) (hm : X.mg x = some (.ref f)) (hk : PySem.W.keepIn X.K (.ref f) = true) (hb : Binds X.K fd ps []) (tk : Takes X W)
    (ha : QAB T io X W p (e :: es) a) (hdb : (x == ("__debug__" : Str)) = false := by decide) (he : starEach (e :: es) X.env = (false, eval e X.env) :: starEach es X.env := by rfl) (hpl : (backTo pos (starEach es X.env)).any (·.1) = false := by rfl) :
    QE T io X W p (.Call (.Name x pp) (e :: es) [] pos) (mCallB np fn a) := fun G g => PE.imp (pe_callS F hr hg hm hk hb (fun σ => passAt tk σ) (ha G g) hdb he hpl) fun σ H Q ⟨F0, r, t, tv, h1, h2⟩ => by
  refine ⟨F0, r, t, tv, h1, (sat_bind h2).mono (fun ds r1 q vs F1 H1 s1 z1 h3 lk => ?_) fun _ _ q => q⟩
  obtain ⟨hn, q⟩ := sat_ck (sat_bind q)
  exact callB_imp lk (of_decide_eq_true hn) h3 (q.mono (fun d r' q v H' z3 h5 => q v F1 H' s1 (fun z => (z1 z).trans z3) h5) fun _ _ q => q.trans s1)

/-! ### a op b op c -/
/-- op as a test of looked-at data -/
def mChain (f f' : D → D → Option D) (a b c : M D) : M D := M.bind a fun x => M.bind b fun y => M.bind (M.opt ((f x y).bind D.bl?)) fun k => if k = true then M.bind c fun z => M.opt (f' y z) else M.ret (.bl false)
theorem chain_imp {K : PySem.W.Frag} {G : Gm} {f f' : D → D → Option D} {rr rr' : R2} {ma mb mc : M D} {σ : L2.St} {H : Hp} {Q : VK} (hf : Op2 K T f rr) (hf' : Op2 K T f' rr') (h : tE K T G W p (mChain f f' ma mb mc) σ H Q) :
    tChain rr rr' (tB K T G W p ma) (tB K T G W true mb) (tB K T G W true mc) σ H Q := by
  obtain ⟨F, r, t, tv, h1, h2⟩ := h
  refine ⟨F, r, t, tv, h1, (sat_bind h2).mono (fun d r1 q v F1 H1 s1 z1 h3 lk => ?_) fun _ _ q => q⟩
  refine ⟨F1, r1, t, tv, h3, (sat_bind q).mono (fun d2 r2 q v2 F2 H2 s2 z2 h4 lk2 => ?_) fun _ _ q => q.trans s1⟩
  obtain ⟨k, e, q⟩ := sat_opt (sat_bind q)
  cases e1 : f d d2 with
  | none => rw [e1] at e; cases e
  | some d3 =>
    rw [e1] at e
    have e : d3 = .bl k := D.bl?_eq e
    subst e
    have lk' := lk.mono s2 (z2 rfl)
    refine hf F2 H2 d d2 v v2 _ _ e1 h4.sub lk' lk2 fun u H3 w => ?_
    obtain ⟨F3, s3, h5, z3⟩ := h4.res w
    have eu : u = .bl k := by
      have := h5.top
      cases this with
      | leaf z => exact z
    refine ⟨k, eu, ?_⟩
    cases k with
    | false =>
      rw [if_neg Bool.false_ne_true] at q ⊢
      exact q _ F3 H3 ((s1.trans s2).trans s3) (fun z => ((z1 z).trans (z2 rfl)).trans z3) (h5.drop.push (.leaf rfl))
    | true =>
      rw [if_pos rfl] at q ⊢
      refine ⟨F3, r2, t, tv, h5.drop, (sat_bind q).mono (fun d4 r4 q v4 F4 H4 s4 z4 h6 lk4 => ?_) fun _ _ q => q.trans ((s1.trans s2).trans s3)⟩
      obtain ⟨d5, e5, q⟩ := sat_opt q
      refine hf' F4 H4 d2 d4 v2 v4 d5 Q e5 h6.sub ((lk2.mono s3 z3).mono s4 (z4 rfl)) lk4 fun u2 H5 w2 => ?_
      obtain ⟨F5, s5, h7, z5⟩ := h6.res w2
      exact q u2 F5 H5 ((((s1.trans s2).trans s3).trans s4).trans s5) (fun z => ((((z1 z).trans (z2 rfl)).trans z3).trans (z4 rfl)).trans z5) h7
theorem qe_chain {a b c : Expr} {op op' : CmpOp} {f f' : D → D → Option D} {rr rr' : R2} {ma mb mc : M D} (ho : OpR X (compareOp op) rr) (ho' : OpR X (compareOp op') rr') (hf : Op2 X.K T f rr) (hf' : Op2 X.K T f' rr') (ha : QB T io X W p a ma) (hb : QB T io X W true b mb) (hc : QB T io X W true c mc)
    (hm : lastMarks [op, op'] [b, c] = false := by with_unfolding_all rfl) : QE T io X W p (.Compare a [op, op'] [b, c] pos) (mChain f f' ma mb mc) := fun G g => PE.imp (pe_chain ho ho' (ha G g) (hb G g) (hc G g) hm) fun σ H Q h => chain_imp hf hf' h
theorem qt_chain {a b c : Expr} {op op' : CmpOp} {f f' : D → D → Option D} {rr rr' : R2} {ma mb mc : M D} (ho : OpR X (compareOp op) rr) (ho' : OpR X (compareOp op') rr') (hf : Op2 X.K T f rr) (hf' : Op2 X.K T f' rr') (ha : QB T io X W p a ma) (hb : QB T io X W true b mb) (hc : QB T io X W true c mc)
    (hm : lastMarks [op, op'] [b, c] = false := by with_unfolding_all rfl) : QT T io X W p (.Compare a [op, op'] [b, c] pos) (mTest (mChain f f' ma mb mc)) := fun G g => PT.imp (pt_chain ho ho' (ha G g) (hb G g) (hc G g) hm) fun σ H Q h => chain_imp hf hf' (impTE h)
end
end VL

/-! VL11: writes into a node, except .. as, copies. -/
namespace VL
open PySem PySem.Spec L2

section
variable {K : PySem.W.Frag} {T : String → Option Addr} {G : Gm} {F H : Hp} {r : VS} {t : List D} {σ : L2.St} {tv : List V}
/-- the second list's data are some of the first one's -/
def Sel (K : PySem.W.Frag) (T : String → Option Addr) (ds : List D) (vs : List V) (ds' : List D) (vs' : List V) : Prop := ∀ (F H : Hp) (P : Ft), OwL K T F H ds vs P → ∃ P', OwL K T F H ds' vs' P' ∧ ∀ a, P' a → P a
def Kn.like : Kn → Kn → Prop
  | .ins c _, .ins c' _ => c = c'
  | .ins _ _, _ => False
  | _, .ins _ _ => False
  | _, _ => True
theorem insOk_like {C : Addr} {H H' : Hp} {a dx : Addr} {k k' : Kn} (hl : k.like k') (h : k.insOk T C H a dx) (hd : H' dx = H dx ∨ dx = a) : k'.insOk T C H' a dx := by
  cases k <;> cases k' <;> first
    | exact hl.elim
    | exact h
    | (obtain ⟨h1, h2, h3⟩ := h
       have hl : _ = _ := hl
       subst hl
       rcases hd with z | z
       · exact ⟨h1, z.trans h2, h3⟩
       · exact (h3 z).elim)
theorem Rl.remake {ext : List D} {evs : List V} {k : Kn} {ds : List D} {a : Addr} (hl : ext.length = evs.length) (h : Rl K T G F r (ext ++ .node true k ds :: t) σ (evs ++ .ref a :: tv) H) :
    ∃ vs C dx, k.fits vs.length ∧ H a = some (objOf C dx k vs) ∧ k.insOk T C H a dx ∧ ds.length = vs.length ∧ ∀ (k' : Kn) (ds' : List D) (vs' : List V), k.like k' → k'.fits vs'.length → Sel K T (ext ++ ds) (evs ++ vs) ds' vs' →
      Rl K T G F r (.node true k' ds' :: t) σ (.ref a :: tv) (upd H a (objOf C dx k' vs')) := by
  obtain ⟨⟨Ps, Pt, h1, h2, dj, hq⟩, b1, b2, b3, b4, b5⟩ := h
  obtain ⟨A, B, g1, g2, dj1, un⟩ := OwL.cut hl h2
  cases g2 with
  | @cons _ _ _ _ _ A2 B2 ol g2 dj3 un2 =>
    cases ol with
    | @own _ dx k vs ds _ P0 hn hl2 n1 n2 f1 f2 hp =>
      obtain ⟨z1, C, e1, e2⟩ := hn
      refine ⟨vs, C, dx, z1, e1, e2, hl2.length, fun k' ds' vs' lk ft sel => ?_⟩
      have pa : A2 a := (hp a).mpr (.inl (.inl rfl))
      have pdx : A2 dx := (hp dx).mpr (.inl (.inr rfl))
      have dA : ∀ b, A b → ¬ A2 b := fun b z w => dj1 b z ((un2 b).mpr (.inl w))
      obtain ⟨P', q1, q2⟩ := sel F H (fun b => A b ∨ P0 b) (OwL.join g1 hl2 (fun b z w => dA b z ((hp b).mpr (.inr w))) fun _ => Iff.rfl)
      have in2 : ∀ b, (((b = a ∨ b = dx) ∨ P' b) ∨ B2 b) → Pt b := fun b z => by
        rcases z with (z | z) | z
        · refine (un b).mpr (.inr ((un2 b).mpr (.inl ?_)))
          rcases z with rfl | rfl
          · exact pa
          · exact pdx
        · rcases q2 b z with w | w
          · exact (un b).mpr (.inl w)
          · exact (un b).mpr (.inr ((un2 b).mpr (.inl ((hp b).mpr (.inr w)))))
        · exact (un b).mpr (.inr ((un2 b).mpr (.inr z)))
      have keep : ∀ {Q : Ft}, (∀ b, Q b → ¬ A2 b) → ∀ b, Q b → upd H a (objOf C dx k' vs') b = H b := fun hQ b z => upd_ne fun e => hQ b z (by rw [e]; exact pa)
      have dS : ∀ b, Ps b → ¬ A2 b := fun b z w => dj b z ((un b).mpr (.inr ((un2 b).mpr (.inl w))))
      have dB : ∀ b, B2 b → ¬ A2 b := fun b z w => dj3 b w z
      have nP : ∀ b, P' b → b ≠ a ∧ b ≠ dx := fun b z => by
        rcases q2 b z with w | w
        · exact ⟨fun e => dA b w (by rw [e]; exact pa), fun e => dA b w (by rw [e]; exact pdx)⟩
        · exact ⟨fun e => n1 (by rw [← e]; exact w), fun e => n2 (by rw [← e]; exact w)⟩
      refine ⟨⟨Ps, fun b => ((b = a ∨ b = dx) ∨ P' b) ∨ B2 b, h1.frame (Same.refl _) (keep dS) fun b z => (h1.at z).1, ?_, fun b z w => dj b z (in2 b w), fun b z => hq b (z.imp id (in2 b))⟩, ?_, ?_, b3, b4, b5⟩
      · refine .cons (P1 := fun b => (b = a ∨ b = dx) ∨ P' b) (P2 := B2) (.own (dx := dx) (vs := vs') (P0 := P') ⟨ft, C, upd_same, insOk_like lk e2 ?_⟩ (q1.frame (Same.refl _) (fun b z => upd_ne (nP b z).1) fun b z => (q1.at z).1) (fun z => (nP a z).1 rfl) (fun z => (nP dx z).2 rfl) f1 f2 fun _ => Iff.rfl) (g2.frame (Same.refl _) (keep dB) fun b z => (g2.at z).1) (fun b z w => ?_) fun _ => Iff.rfl
        · by_cases e : dx = a
          · exact .inr e
          · exact .inl (upd_ne e)
        · rcases z with (rfl | rfl) | z
          · exact dB _ w pa
          · exact dB _ w pdx
          · rcases q2 b z with y | y
            · exact dj1 b y ((un2 b).mpr (.inr w))
            · exact dB b w ((hp b).mpr (.inr y))
      · exact fun b o e => by
          rw [upd_ne (fun z => by rw [z, f1] at e; cases e)]
          exact b1 b o e
      · intro b o e n
        have : b ≠ a := fun z => by
          rcases hq a (.inr (in2 a (.inl (.inl (.inl rfl))))) with w | w
          · exact n (by rw [z]; exact w)
          · rw [z, w] at e; cases e
        rw [upd_ne this]
        exact b2 b o e n

/-! selections -/
theorem Sel.refl {ds : List D} {vs : List V} : Sel K T ds vs ds vs := fun _ _ P h => ⟨P, h, fun _ z => z⟩
theorem Sel.trans {d1 d2 d3 : List D} {v1 v2 v3 : List V} (a : Sel K T d1 v1 d2 v2) (b : Sel K T d2 v2 d3 v3) : Sel K T d1 v1 d3 v3 := fun F H P h => by
  obtain ⟨P1, h1, s1⟩ := a F H P h
  obtain ⟨P2, h2, s2⟩ := b F H P1 h1
  exact ⟨P2, h2, fun x z => s1 x (s2 x z)⟩
theorem Sel.tail {d : D} {v : V} {ds : List D} {vs : List V} : Sel K T (d :: ds) (v :: vs) ds vs := fun F H P h => by
  cases h with
  | cons o h dj un => exact ⟨_, h, fun a z => (un a).mpr (.inr z)⟩
theorem Sel.swap {d e : D} {v u : V} {ds : List D} {vs : List V} : Sel K T (d :: e :: ds) (v :: u :: vs) (e :: d :: ds) (u :: v :: vs) := fun F H P h => ⟨P, OwL.lift (ds := [d]) (vs := [v]) rfl h, fun _ z => z⟩
theorem Sel.cons {d : D} {v : V} {ds ds' : List D} {vs vs' : List V} (a : Sel K T ds vs ds' vs') : Sel K T (d :: ds) (v :: vs) (d :: ds') (v :: vs') := fun F H P h => by
  cases h with
  | @cons _ _ _ _ _ A B o h dj un =>
    obtain ⟨P1, h1, s1⟩ := a F H _ h
    exact ⟨fun a => A a ∨ P1 a, .cons o h1 (fun x z w => dj x z (s1 x w)) fun _ => Iff.rfl, fun x z => (un x).mpr (z.imp id (s1 x))⟩
/-- the first one to the end -/
theorem Sel.last {d : D} {v : V} : ∀ {ds : List D} {vs : List V}, ds.length = vs.length → Sel K T (d :: ds) (v :: vs) (ds ++ [d]) (vs ++ [v])
  | [], [], _ => .refl
  | [], _ :: _, h => by simp at h
  | _ :: _, [], h => by simp at h
  | e :: ds, u :: vs, h => Sel.trans .swap (.cons (Sel.last (by simpa using h)))
/-- the first one at place n -/
theorem Sel.set {d : D} {v : V} : ∀ {ds : List D} {vs : List V} (n : Nat), ds.length = vs.length → Sel K T (d :: ds) (v :: vs) (ds.set n d) (vs.set n v)
  | [], [], _, _ => .tail
  | [], _ :: _, _, h => by simp at h
  | _ :: _, [], _, h => by simp at h
  | e :: ds, u :: vs, 0, h => Sel.trans .swap (by simpa using Sel.tail)
  | e :: ds, u :: vs, n + 1, h => Sel.trans .swap (by simpa using .cons (Sel.set n (by simpa using h)))
theorem Sel.erase : ∀ {ds : List D} {vs : List V} (n : Nat), ds.length = vs.length → Sel K T ds vs (ds.eraseIdx n) (vs.eraseIdx n)
  | [], [], _, _ => by simpa using Sel.refl
  | [], _ :: _, _, h => by simp at h
  | _ :: _, [], _, h => by simp at h
  | e :: ds, u :: vs, 0, h => by simpa using Sel.tail
  | e :: ds, u :: vs, n + 1, h => by simpa using .cons (Sel.erase n (by simpa using h))
/-- place n to the front -/
theorem Sel.front : ∀ {ds : List D} {vs : List V} {n : Nat} {d : D} {v : V}, ds.length = vs.length → ds[n]? = some d → vs[n]? = some v → Sel K T ds vs (d :: ds.eraseIdx n) (v :: vs.eraseIdx n)
  | [], _, _, _, _, _, e, _ => by simp at e
  | _ :: _, [], _, _, _, h, _, _ => by simp at h
  | e :: ds, u :: vs, 0, d, v, h, e1, e2 => by simp at e1 e2; subst e1 e2; simpa using Sel.refl
  | e :: ds, u :: vs, n + 1, d, v, h, e1, e2 => by
    refine Sel.trans (.cons (Sel.front (by simpa using h) (by simpa using e1) (by simpa using e2))) ?_
    simpa using Sel.swap
theorem Sel.sink {d : D} {v : V} {t : List D} {tv : List V} : ∀ {ds : List D} {vs : List V}, ds.length = vs.length → Sel K T (d :: (ds ++ t)) (v :: (vs ++ tv)) (ds ++ d :: t) (vs ++ v :: tv)
  | [], [], _ => .refl
  | [], _ :: _, h => by simp at h
  | _ :: _, [], h => by simp at h
  | e :: ds, u :: vs, h => Sel.trans .swap (.cons (Sel.sink (by simpa using h)))
theorem Rl.sel {t' : List D} {tv' : List V} (s : Sel K T t tv t' tv') (h : Rl K T G F r t σ tv H) : Rl K T G F r t' σ tv' H := by
  obtain ⟨⟨Ps, Pt, h1, h2, dj, hq⟩, b1, b2, b3, b4, b5⟩ := h
  obtain ⟨P', q1, q2⟩ := s F H Pt h2
  exact ⟨⟨Ps, P', h1, q1, fun a z w => dj a z (q2 a w), fun a z => hq a (z.imp id (q2 a))⟩, b1, b2, b3, b4, b5⟩
/-- the node in a slot is written -/
theorem Rl.mutSlot {ext : List D} {evs : List V} {i : Nat} {k : Kn} {ds : List D} (hl : ext.length = evs.length) (h : Rl K T G F r (ext ++ t) σ (evs ++ tv) H) (e : slot? i r = some (.node true k ds)) :
    ∃ a vs C dx, σ[i]? = some (some (.ref a)) ∧ k.fits vs.length ∧ H a = some (objOf C dx k vs) ∧ k.insOk T C H a dx ∧ ds.length = vs.length ∧ ∀ (k' : Kn) (ds' : List D) (vs' : List V), k.like k' → k'.fits vs'.length → Sel K T (ext ++ ds) (evs ++ vs) ds' vs' →
      Rl K T G F (r.set i (some (.node true k' ds'))) t σ tv (upd H a (objOf C dx k' vs')) := by
  have es := slot?_eq e
  obtain ⟨v, ev, h2⟩ := h.take es
  have h3 := Rl.sel (Sel.sink hl) h2
  obtain ⟨a, vs0, ea, _⟩ := (h2.top).node h2.sub
  subst ea
  obtain ⟨vs, C, dx, z1, z2, z3, z4, z5⟩ := Rl.remake hl h3
  refine ⟨a, vs, C, dx, ev, z1, z2, z3, z4, fun k' ds' vs' l f s => ?_⟩
  have h5 := z5 k' ds' vs' l f s
  have hi : i < (r.set i none).length := by rw [List.length_set]; exact (List.getElem?_eq_some_iff.mp es).1
  have h6 := h5.put hi fun w ew => by
    have := h5.pin i w ew
    rw [ev] at this
    exact Option.some.inj (Option.some.inj this)
  rw [List.set_set, set_same ev] at h6
  exact h6
end

section
variable {T : String → Option Addr} {io : Io} {X : Cx} {W : WX} {p p1 p2 : Bool} {pos : Pos}
/-- x[k] = e, x a list of a slot -/
def setIxR (i : Nat) (d : D) (j : Int) : M Fl := fun r => match ownL? i r with
  | some ds => (match ixN ds.length j with | some n => .ok .nx (r.set i (some (.lst true (ds.set n d)))) | none => .no)
  | none => .no
def mIsL (i : Nat) : M Unit := fun r => if isL i r = true then .ok () r else .no
def mSetIx (i : Nat) (a k : M D) : M Fl := M.bind a fun d => M.bind (mIsL i) fun _ => M.bind k fun kd => M.bind (M.opt (int? kd)) fun j => setIxR i d j
theorem sat_isL {i : Nat} {r : VS} {ok : Unit → VS → Prop} {ex : String → VS → Prop} (h : (mIsL i r).sat ok ex) : isL i r = true ∧ ok () r := by
  unfold mIsL at h
  split at h
  · exact ⟨by assumption, h⟩
  · exact h.elim
theorem qs_setIx {i : Nat} {x : Str} {k e : Expr} {np tpos : Pos} {a mk : M D} (hN : X.N[i]? = some x) (hv : Vis X.env.scope x) (he : QE T io X W p e a) (hk : QB T io X W p2 k mk) (hd : (x == ("__debug__" : Str)) = false := by decide) (hcd : (x == ("__classdict__" : Str)) = false := by decide)
    (ha : ∀ v, assign (.Subscript (.Name x np) k tpos) X.env v = (do
      let ov ← holding [v] (eval (.Name x np) X.env)
      let iv ← holding [v, ov] (eval k X.env)
      standAt tpos
      holding [v, ov, iv] (setItem ov iv v)
      release [v, ov, iv] []) := by intro _; rfl) (hs : swapsWithSole [.Subscript (.Name x np) k tpos] e pos.line X.env = pure false := by rfl) (hw : swappedStores [.Subscript (.Name x np) k tpos] e X.env = pure none := by rfl)
    (h1 : (assignEach [.Subscript (.Name x np) k tpos] X.env).map (·.2) = [assign (.Subscript (.Name x np) k tpos) X.env] := by rfl) : QS T io X W (.Assign [.Subscript (.Name x np) k tpos] e pos) (mSetIx i a mk) := fun G g =>
  PS.imp (ps_asg (he G g) (pg_sub (pe_var hN hv hd hcd) (hk G g) set_list ha) hs hw h1) fun B σ H ⟨F, r, t, tv, h1, h2⟩ => by
    refine ⟨F, r, t, tv, h1, (sat_bind h2).mono (fun d r1 q v F1 H1 s1 z1 h3 => ?_) fun _ _ q => q.toP⟩
    obtain ⟨hL, q⟩ := sat_isL (sat_bind q)
    obtain ⟨c, vs0, ec, hc⟩ := isL_lk h3 hL
    refine ⟨_, ec, F1, r1, d :: t, v :: tv, h3, (sat_bind q).mono (fun kd r2 q kv F2 H2 s2 z2 h4 lk => ?_) fun c r' q => ?_⟩
    · obtain ⟨j, e, q⟩ := sat_opt (sat_bind q)
      unfold setIxR at q
      cases e1 : ownL? i r2 with
      | none => rw [e1] at q; exact q.elim
      | some ds =>
        rw [e1] at q
        dsimp only at q
        cases e2 : ixN ds.length j with
        | none => rw [e2] at q; exact q.elim
        | some n =>
          rw [e2] at q
          obtain ⟨a', vs, C, dx, y1, y2, y3, y4, y5, y6⟩ := Rl.mutSlot (ext := [d]) (evs := [v]) rfl h4 (ownL?_eq e1)
          rw [ec] at y1
          cases y1
          refine ⟨c, vs, j, n, rfl, lk_int lk e, y3, by rw [← y5]; exact e2, ?_⟩
          exact q σ F2 _ (s1.trans s2) (y6 .lst (ds.set n d) (vs.set n v) trivial trivial (Sel.set n y5))
    · exact fun C F2 H2 z s3 h4 => q C σ F2 H2 z (s1.trans s3) h4.drop
/-- x = y, a copy of a list or a tuple of plain items -/
def fListOf : List D → Option D
  | [.node _ .lst ds] => if ds.all D.shr = true then some (.lst true ds) else none
  | [.node _ .tup ds] => if ds.all D.shr = true then some (.lst true ds) else none
  | _ => none
theorem listOf_ok {K : PySem.W.Frag} : OpN K T fListOf (fun xs H Q => ∃ p ys, xs = [.ref p] ∧ (SqL K H p ys ∨ SqT K H p ys) ∧ ∀ l, H l = none → Q (.ref l) (upd H l (.lst ys))) := by
  intro F H ds xs d' Q hf s l q
  unfold fListOf at hf
  split at hf
  · split at hf
    · rename_i hs
      cases hf
      obtain ⟨x, rfl, l1⟩ := lkl1 l
      obtain ⟨a, vs, rfl, hn, hl⟩ := l1.node s
      exact ⟨a, vs, rfl, .inl hn.2, fun c hc => q _ _ (.new (k := .lst) (fun _ _ z => nomatch z) trivial (hl.shr hs) hc)⟩
    · cases hf
  · split at hf
    · rename_i hs
      cases hf
      obtain ⟨x, rfl, l1⟩ := lkl1 l
      obtain ⟨a, vs, rfl, hn, hl⟩ := l1.node s
      exact ⟨a, vs, rfl, .inr hn.2, fun c hc => q _ _ (.new (k := .lst) (fun _ _ z => nomatch z) trivial (hl.shr hs) hc)⟩
    · cases hf
  · cases hf
def fTupleOf : List D → Option D
  | [.node _ .lst ds] => if ds.all D.shr = true then some (.tup false ds) else none
  | [.node false .tup ds] => some (.tup false ds)
  | _ => none
theorem tupleOf_ok {K : PySem.W.Frag} : OpN K T fTupleOf (fun xs H Q => ∃ p ys, xs = [.ref p] ∧ ((SqL K H p ys ∧ ∀ l, H l = none → Q (.ref l) (upd H l (.tup ys))) ∨ (SqT K H p ys ∧ Q (.ref p) H))) := by
  intro F H ds xs d' Q hf s l q
  unfold fTupleOf at hf
  split at hf
  · split at hf
    · rename_i hs
      cases hf
      obtain ⟨x, rfl, l1⟩ := lkl1 l
      obtain ⟨a, vs, rfl, hn, hl⟩ := l1.node s
      exact ⟨a, vs, rfl, .inl ⟨hn.2, fun c hc => q _ _ (.newF (k := .tup) (fun _ _ z => nomatch z) trivial (hl.shr hs) hc)⟩⟩
    · cases hf
  · cases hf
    obtain ⟨x, rfl, l1⟩ := lkl1 l
    have fz := l1.shr rfl
    obtain ⟨a, vs, rfl, hn, hl⟩ := l1.node s
    exact ⟨a, vs, rfl, .inr ⟨hn.2, q _ _ (.sh fz)⟩⟩
  · cases hf

/-! ### try: .. except X as e: .. -/
def mTryAs (i : Nat) (b : M Fl) (catch_ : String → Bool) (s : String → M Fl) : M Fl := fun r => match b r with
  | .ex c r' => if catch_ c = true then (if i < r'.length then (match s c (r'.set i none) with
      | .ok f r2 => .ok f (r2.set i none)
      | _ => .no) else .no) else .ex c r'
  | x => x
def Gm.withPin (G : Gm) (i : Nat) (v : V) : Gm := { G with pin := fun j => if j = i then some v else G.pin j }
abbrev Io.withPin (io : Io) (i : Nat) (v : V) : Io := ⟨i :: io.l, (i, v) :: io.k⟩
theorem pins_with {G : Gm} {i : Nat} {v : V} (g : Pins io G) (hi : i ∉ io.l) : Pins (io.withPin i v) (G.withPin i v) := by
  refine ⟨fun j w e => ?_, fun q hq => ?_⟩
  · have e' : (if j = i then some v else G.pin j) = some w := e
    by_cases z : j = i
    · subst z; exact List.mem_cons_self
    · rw [if_neg z] at e'; exact List.mem_cons_of_mem _ (g.1 j w e')
  · rcases List.mem_cons.mp hq with rfl | hq
    · exact if_pos rfl
    · have e := g.2 q hq
      have n : q.1 ≠ i := fun z => hi (by rw [← z]; exact g.1 _ _ e)
      exact (if_neg n).trans e
theorem qs_tryAs {i : Nat} {body suite : List Stmt} {b0 : Stmt} {x n : Str} {c : Value} {np pos' : Pos} {f : String → Bool} {mb : M Fl} {ms : String → M Fl} (hs : X.stack = X.env :: X.outer) (hf : X.env.frame = some X.env.locals) (hN : X.N.Nodup) (hi : X.N[i]? = some n) (hln : X.env.kindOf n = some .local) (hio : i ∉ io.l) (hc : Names X x c) (tk : Takes X W) (hk : Catches X.K T c f)
    (hb : ∀ (W : WX) (pn : List (Addr × Obj)) (xe : Value → Shared → Prop), Takes (X.tr pn xe) W → PassesOwn (model X.prog X.w) X.A X.env xe → QSs T io (X.tr pn xe) W body mb)
    (hsu : ∀ (a : Addr) (oe : Obj) (cn : String) (C : Addr) (pn : List (Addr × Obj)), T cn = some C → f cn = true → Zc (.ref C) none oe → (∃ vs, oe.data = .fields vs) → QSs T (io.withPin i (.ref a)) (X.suite a ((a, oe) :: pn)) W0 (b0 :: suite) (ms cn)) :
    QS T io X W (.Try body [.ExceptHandler (some (.Name x np)) (some n) (b0 :: suite) pos'] [] [] pos) (mTryAs i mb f ms) := fun G g =>
  PS.imp (ps_try_as (tb := fun W => tS X.K T G W mb) (ts := fun a cls d => fun D σ H => ∃ cn C, T cn = some C ∧ f cn = true ∧ cls = .ref C ∧ d = none ∧ tS X.K T (G.withPin i (.ref a)) W0 (ms cn) D σ H) hs hf hN hi hln hc tk (fun W pn xe tk po => hb W pn xe tk po G g) (fun a oe cls d pn hz hd => by
    refine ⟨fun pins s σ H D I h => ?_⟩
    obtain ⟨cn, C, e1, e2, rfl, rfl, h⟩ := h
    exact (hsu a oe cn C pn e1 e2 hz hd _ (pins_with g hio)).run pins s σ H D I h)) fun B σ H ⟨F, r, t, tv, h1, h2⟩ => by
    refine ⟨F, r, t, tv, h1, ?_⟩
    unfold mTryAs at h2
    cases e : mb r with
    | ok a r' => rw [e] at h2; exact h2
    | no => rw [e] at h2; exact h2
    | ex c r' =>
      rw [e] at h2
      intro C σ' F' H' hT s1 h3
      refine ⟨f c, hk c C hT, fun hb a ha => ?_, fun hb => ?_⟩
      · dsimp only at h2
        rw [hb, if_pos rfl] at h2
        have hir : i < r'.length := by
          by_cases hir : i < r'.length
          · exact hir
          · rw [if_neg hir] at h2; exact h2.elim
        rw [if_pos hir] at h2
        have h4 : Rl X.K T (G.withPin i (.ref a)) F' (r'.set i none) t (σ'.set i (some (.ref a))) tv H' := by
          obtain ⟨b0, b1, b2, b3, b4, b5⟩ := (h3.empty i).reval (σ' := σ'.set i (some (.ref a))) (by simp) (fun j ⟨d, ej⟩ => by
            have n : j ≠ i := fun z => by
              subst z
              by_cases hl : j < r'.length
              · rw [List.getElem?_set_self hl] at ej; cases ej
              · rw [List.getElem?_eq_none (by simpa using hl)] at ej; cases ej
            exact List.getElem?_set_ne (Ne.symm n)) (fun j w ew => List.getElem?_set_ne fun z => hio (by rw [z]; exact g.1 j w ew))
          refine ⟨b0, b1, b2, b3, b4, fun j w ew => ?_⟩
          have ew' : (if j = i then some (V.ref a) else G.pin j) = some w := ew
          by_cases z : j = i
          · subst z
            rw [if_pos rfl] at ew'
            cases ew'
            have hj : j < σ'.length := by rw [h3.slots]; exact hir
            rw [List.getElem?_set_self hj]
          · rw [if_neg z] at ew'; exact b5 j w ew'
        refine ⟨c, C, hT, hb, rfl, rfl, F', r'.set i none, t, tv, h4, ?_⟩
        have back : ∀ {r2 : VS} {t2 : List D} {tv2 : List V} {σ2 : L2.St} {F2 H2 : Hp}, Rl X.K T (G.withPin i (.ref a)) F2 r2 t2 σ2 tv2 H2 → Rl X.K T G F2 (r2.set i none) t2 (σ2.set i none) tv2 H2 := fun {r2 t2 tv2 σ2 F2 H2} h => by
          obtain ⟨b0, b1, b2, b3, b4, b5⟩ := h
          have h' : Rl X.K T G F2 r2 t2 σ2 tv2 H2 := ⟨b0, b1, b2, b3, b4, fun j w ew => b5 j w (by
            have n : j ≠ i := fun z => hio (z ▸ g.1 j w ew)
            exact (if_neg n).trans ew)⟩
          exact (h'.empty i).reval (by simp) (fun j ⟨d, ej⟩ => by
            have n : j ≠ i := fun z => by
              subst z
              by_cases hl : j < r2.length
              · rw [List.getElem?_set_self hl] at ej; cases ej
              · rw [List.getElem?_eq_none (by simpa using hl)] at ej; cases ej
            exact List.getElem?_set_ne (Ne.symm n)) (fun j w ew => List.getElem?_set_ne fun z => hio (by rw [z]; exact g.1 j w ew))
        cases e5 : ms c (r'.set i none) with
        | no => rw [e5] at h2; exact h2.elim
        | ex _ _ => rw [e5] at h2; exact h2.elim
        | ok fl r2 =>
          rw [e5] at h2
          intro σ2 F2 H2 s2
          cases fl with
          | nx => exact fun h5 => h2 _ F2 H2 (s1.trans s2) (back h5)
          | bk => exact fun h5 => h2 _ F2 H2 (s1.trans s2) (back h5)
          | ct => exact fun h5 => h2 _ F2 H2 (s1.trans s2) (back h5)
          | rt d => exact fun v h5 => h2 _ F2 H2 (s1.trans s2) v (back h5)
      · dsimp only at h2
        rw [hb, if_neg Bool.false_ne_true] at h2
        exact h2 C σ' F' H' hT s1 h3

/-! ### isinstance(e, ..) -/
/-- the test of a caught exception's class, u a class -/
def IsE (K : PySem.W.Frag) (T : String → Option Addr) (u : Value) (f : String → Bool) : Prop := ∀ x C, T x = some C → PySem.W.kitOne K (.ref C) u = some (f x)
def IsEs (K : PySem.W.Frag) (T : String → Option Addr) (us : List Value) (f : String → Bool) : Prop := ∀ x C, T x = some C → PySem.W.kitAny K (.ref C) us = some (f x)
theorem ises_nil {K : PySem.W.Frag} : IsEs K T [] fun _ => false := fun _ _ _ => kitAny_nil
theorem ises_cons {K : PySem.W.Frag} {u : Value} {us : List Value} {f g : String → Bool} (h : IsE K T u f) (hs : IsEs K T us g) : IsEs K T (u :: us) fun x => f x || g x := fun x C e => by
  refine kitAny_cons (h x C e) (fun z => ?_) fun z => by
    show (f x || g x) = true
    rw [z]; rfl
  show PySem.W.kitAny K (Value.ref C) us = some (f x || g x)
  rw [z]; exact hs x C e
theorem qe_isE {i : Nat} {a : Addr} {oe : Obj} {cn : String} {C : Addr} {pn : List (Addr × Obj)} {ce : Expr} {cv : V} {u : Value} {f : String → Bool} {n : Str} {p0 np : Pos} (hT : ExcC X.K C) (ec : T cn = some C) (hz : Zc (.ref C) none oe) (hf : ∃ vs, oe.data = .fields vs)
    (hN : X.N[i]? = some n) (hv : Vis X.env.scope n) (hio : (i, V.ref a) ∈ io.k) (hc : PE (X.suite a ((a, oe) :: pn)) ce (tC cv)) (k : ClsV cv u) (hi : IsE X.K T u f) (hg : Gl X "isinstance") (hm : X.mg "isinstance" = none) (hd : (n == ("__debug__" : Str)) = false := by decide) (hcd : (n == ("__classdict__" : Str)) = false := by decide)
    (hs1 : starEach [.Name n np, ce] X.env = (false, eval (.Name n np) X.env) :: starEach [ce] X.env := by rfl) (hs2 : starEach [ce] X.env = [(false, eval ce X.env)] := by rfl) : QE T io (X.suite a ((a, oe) :: pn)) W true (.Call (.Name "isinstance" p0) [.Name n np, ce] [] pos) (M.ret (.bl (f cn))) :=
  fun G g => PE.imp (pe_callB (X := X.suite a ((a, oe) :: pn)) (call_isE hT hz hf) hg hm (by decide +kernel) (pa_cons (pe_var (X := X.suite a ((a, oe) :: pn)) hN hv hd hcd) (pa_cons hc pa_nil hs2) hs1) (he := hs1) (hpl := by rw [hs2]; rfl)) fun σ H Q ⟨F, r, t, tv, h1, h2⟩ => by
    have e := h1.pin i _ (g.2 _ hio)
    exact ⟨_, e, cv, u, f cn, rfl, fun w hw => k.eq hw, hi cn C ec, h2 (.bl (f cn)) F H (Same.refl _) (fun _ => Same.refl _) (h1.push (.leaf rfl))⟩
theorem call_isET {X : Cx} {a D : Addr} {oe : Obj} {pn : List (Addr × Obj)} (C : ExcC X.K D) (hz : Zc (.ref D) none oe) (hf : ∃ vs, oe.data = .fields vs) : CallR (X.suite a ((a, oe) :: pn)) (.builtin "isinstance")
    (fun xs H Q => ∃ (tp : Addr) (cs : List V) (us : List Value) (b : Bool), xs = [.ref a, .ref tp] ∧ H tp = some (.tup cs) ∧ Paired ClsV cs us ∧ PySem.W.kitAny X.K (.ref D) us = some b ∧ Q (.bl b) H) := by
  intro pins s σ H xs us Q I r h
  obtain ⟨tp, cs, ws, b, rfl, hT, k, e, q⟩ := h
  obtain ⟨u1, u2, rfl, r1, r2⟩ := vals2 r
  cases (show u1 = Value.ref a from r1)
  cases (show u2 = Value.ref tp from r2)
  obtain ⟨hget, _⟩ := I.pin (a, oe) (List.mem_append.mpr (.inl List.mem_cons_self))
  obtain ⟨vs, hv⟩ := hf
  have J : PySem.W.InstAt s.heap a oe D none := by
    obtain ⟨oc, od, oda, osl⟩ := oe
    obtain ⟨h1, h2⟩ := hz
    dsimp only at h1 h2 hv
    subst h1 h2 hv
    exact ⟨hget, rfl, rfl, trivial⟩
  obtain ⟨_, its, rv, o, h1, h2, n, h3⟩ := (show ObjOk X.prog X.w H s.heap tp (.tup cs) from I.hok tp _ hT)
  have e3 := ClsV.all k rv
  subst e3
  obtain ⟨oc, od, dt, sl⟩ := o
  simp only at h2 h3
  subst h2 h3
  exact PySem.W.kia_tup (PySem.W.handS_kitx_exc C.hg C.hk C.hs C.hd C.ha C.hn C.ht C.hm) I.kIn J h1 e (fun z => nomatch z) fun tk => ⟨.bl b, H, I.kept (t' := tk) fun _ _ z => z, rfl, q⟩
theorem qe_isET {i : Nat} {a : Addr} {oe : Obj} {cn : String} {C : Addr} {pn : List (Addr × Obj)} {ces : List Expr} {tpos : Pos} {x1} {cs : List V} {us : List Value} {f : String → Bool} {n : Str} {p0 np : Pos} (hT : ExcC X.K C) (ec : T cn = some C) (hz : Zc (.ref C) none oe) (hf : ∃ vs, oe.data = .fields vs)
    (hN : X.N[i]? = some n) (hv : Vis X.env.scope n) (hio : (i, V.ref a) ∈ io.k) (hc : PA (X.suite a ((a, oe) :: pn)) ces (fun _ H Q => Q cs H)) (hl : cs.length ≤ sizeLine) (k : Paired ClsV cs us) (hi : IsEs X.K T us f) (hg : Gl X "isinstance") (hm : X.mg "isinstance" = none) (hd : (n == ("__debug__" : Str)) = false := by decide) (hcd : (n == ("__classdict__" : Str)) = false := by decide)
    (hs1 : starEach [.Name n np, .Tuple ces x1 tpos] X.env = (false, eval (.Name n np) X.env) :: starEach [.Tuple ces x1 tpos] X.env := by rfl) (hs2 : starEach [.Tuple ces x1 tpos] X.env = [(false, eval (.Tuple ces x1 tpos) X.env)] := by rfl) : QE T io (X.suite a ((a, oe) :: pn)) W true (.Call (.Name "isinstance" p0) [.Name n np, .Tuple ces x1 tpos] [] pos) (M.ret (.bl (f cn))) :=
  fun G g => PE.imp (pe_callB (X := X.suite a ((a, oe) :: pn)) (call_isET hT hz hf) hg hm (by decide +kernel) (pa_cons (pe_var (X := X.suite a ((a, oe) :: pn)) hN hv hd hcd) (pa_cons (pe_tup hc) pa_nil hs2) hs1) (he := hs1) (hpl := by rw [hs2]; rfl)) fun σ H Q ⟨F, r, t, tv, h1, h2⟩ => by
    have e := h1.pin i _ (g.2 _ hio)
    refine ⟨_, e, hl, fun tp htp => ⟨tp, cs, us, f cn, rfl, upd_same, k, hi cn C ec, ?_⟩⟩
    exact h2 (.bl (f cn)) F _ (Same.refl _) (fun _ => same_upd htp) ((h1.grow (same_upd htp)).push (.leaf rfl))
end
end VL

/-! VL12: defs as the head tells them, classes of errors, the law's end. -/
namespace VL
open PySem PySem.Spec L2

section
variable {T : String → Option Addr} {io : Io} {X : Cx} {W : WX} {p p1 p2 : Bool} {pos : Pos}
/-- THE RULE: a def keeps what its data function says -/
theorem fn_okD {io : List Nat} {P : Program} {w : World} {K : PySem.W.Frag} {mg : Str → Option Value} {base : Heap} {x qual : Str} {params : Arguments} {bd : List Stmt} {sc : Scope} {dvs : List V} {kws : List (Str × V)} {f : Addr} {fd : FuncData} {N ps : List Str} {k n : Nat} {body : M Fl} (F : FunD K x qual params bd sc dvs kws f fd) (S : FnScope N ps sc) (hn : N.length = n) (hio : io.Nodup) (hlt : ∀ i ∈ io, i < ps.length)
    (hb : ∀ (cdv : Value) (A : Around) (outer : List Env) (s : Shared) (H : Hp) (E : XK), Room k (A.deeper (PyProof.Rows.envOfC qual sc s.heap.objs.size f cdv)) →
      QSs T ⟨io, []⟩ (cxOf (L2.CX P w) P w K mg base N qual sc f cdv A outer s H E) (fun cls d _ H => E cls d H) bd body) :
    FnOk P w K mg base (L2.CX P w) (k + 1) f fd ps (spV K T ps.length io (fnM n io body)) := by
  refine F.ok S (fun vs H Q E ⟨F0, ds, P0, h1, h2, h3, h4⟩ => by rw [← h1.length, h3]) fun cdv A outer s H vs Q E hr hsp => ?_
  obtain ⟨F0, ds, P0, h1, h2, h3, h4⟩ := hsp
  have hlv : vs.length = ps.length := by rw [← h1.length, h3]
  let G : Gm := ⟨H, P0, F0, fun i => if i ∈ io then vs[i]? else none⟩
  have hpin : Pins ⟨io, []⟩ G := by
    refine ⟨fun j v e => ?_, fun q hq => nomatch hq⟩
    by_cases z : j ∈ io
    · exact z
    · have e' : (if j ∈ io then vs[j]? else none) = some v := e
      rw [if_neg z] at e'; cases e'
  refine ⟨_, hb cdv A outer s H E hr G hpin, F0, ds.map some ++ List.replicate (n - ds.length) none, [], [], ⟨⟨P0, fun _ => False, ?_, .nil fun _ z => z, fun _ _ z => z, fun a z => z.elim .inl False.elim⟩, h2, fun a o e _ => e, fun a o e => .inl e, Same.refl _, fun i v e => ?_⟩, ?_⟩
  · unfold L2.start
    rw [hn, ← h1.length]
    exact OwS.start _ h1
  · have z : i ∈ io := hpin.1 i v e
    have e' : (if i ∈ io then vs[i]? else none) = some v := e
    rw [if_pos z] at e'
    unfold L2.start
    rw [List.getElem?_append_left (by simpa using (List.getElem?_eq_some_iff.mp e').1), List.getElem?_map, e']
    rfl
  · -- the ends
    have fin : ∀ {r : VS} {d : D} {v : V} {o : List D} {σ' : L2.St} {F' H' : Hp}, outs? r io = some o → Rl K T G F' r [d] σ' [v] H' → ∃ vo P', OwL K T F' H' (o ++ [d]) (vo ++ [v]) P' ∧ Aft F0 H P0 F' H' P' ∧ vo.map some = io.map fun i => vs[i]? := by
      intro r d v o σ' F' H' e h
      obtain ⟨vo, r', e1, q, _⟩ := Rl.takes hio h e
      obtain ⟨⟨Ps, Pt, g1, g2, dj, hp⟩, b1, b2, b3, b4, b5⟩ := q
      refine ⟨vo, Pt, g2, ⟨b4, b1, b2, fun a z => hp a (.inr z), b3⟩, ?_⟩
      rw [e1]
      refine List.map_congr_left fun i hi => ?_
      have e2 : G.pin i = vs[i]? := if_pos hi
      have hi2 : i < vs.length := by rw [hlv]; exact hlt i hi
      rw [List.getElem?_eq_getElem hi2] at e2 ⊢
      rw [b5 i _ e2]; rfl
    have finE : ∀ {r : VS} {o : List D} {σ' : L2.St} {F' H' : Hp}, outs? r io = some o → Rl K T G F' r [] σ' [] H' → ∃ vo P', OwL K T F' H' o vo P' ∧ Aft F0 H P0 F' H' P' ∧ vo.map some = io.map fun i => vs[i]? := by
      intro r o σ' F' H' e h
      obtain ⟨vo, r', e1, q, _⟩ := Rl.takes hio h e
      obtain ⟨⟨Ps, Pt, g1, g2, dj, hp⟩, b1, b2, b3, b4, b5⟩ := q
      rw [List.append_nil, List.append_nil] at g2
      refine ⟨vo, Pt, g2, ⟨b4, b1, b2, fun a z => hp a (.inr z), b3⟩, ?_⟩
      rw [e1]
      refine List.map_congr_left fun i hi => ?_
      have e2 : G.pin i = vs[i]? := if_pos hi
      have hi2 : i < vs.length := by rw [hlv]; exact hlt i hi
      rw [List.getElem?_eq_getElem hi2] at e2 ⊢
      rw [b5 i _ e2]; rfl
    unfold fnM at h4
    cases e : body (ds.map some ++ List.replicate (n - ds.length) none) with
    | no => rw [e] at h4; exact h4
    | ex c r =>
      rw [e] at h4
      dsimp only at h4
      cases e2 : outs? r io with
      | none => rw [e2] at h4; exact h4.elim
      | some o =>
        rw [e2] at h4
        intro C σ' F' H' hT s1 h5
        obtain ⟨vo, P', g1, g2, g3⟩ := finE e2 h5
        exact h4 C F' H' vo P' hT g1 g2 g3
    | ok f r =>
      rw [e] at h4
      intro σ' F' H' s1
      cases f with
      | bk => exact h4.elim
      | ct => exact h4.elim
      | nx =>
        dsimp only at h4
        cases e2 : outs? r io with
        | none => rw [e2] at h4; exact h4.elim
        | some o =>
          rw [e2] at h4
          intro h5
          obtain ⟨vo, P', g1, g2, g3⟩ := fin (d := .non) (v := .non) e2 (h5.push (.leaf rfl))
          exact h4 .non F' H' vo P' g1 g2 g3
      | rt d =>
        dsimp only at h4
        cases e2 : outs? r io with
        | none => rw [e2] at h4; exact h4.elim
        | some o =>
          rw [e2] at h4
          intro v h5
          obtain ⟨vo, P', g1, g2, g3⟩ := fin e2 h5
          exact h4 v F' H' vo P' g1 g2 g3


/-! ### classes by names -/
def clT (cs : List String) (K : PySem.W.Frag) : String → Option Addr := fun c => if c ∈ cs then some (He.ga K (Str.ofString c)) else none
theorem clT_in {cs : List String} {K : PySem.W.Frag} {c : String} (h : c ∈ cs) : clT cs K c = some (He.ga K (Str.ofString c)) := if_pos h
theorem clT_of {cs : List String} {K : PySem.W.Frag} {c : String} {C : Addr} (h : clT cs K c = some C) : c ∈ cs ∧ C = He.ga K (Str.ofString c) := by
  unfold clT at h
  split at h
  · exact ⟨by assumption, (Option.some.inj h).symm⟩
  · cases h
/-- which of cs the clause takes: l -/
def catB (cs : List String) (u : Value) (l : List String) (K : PySem.W.Frag) : Bool := cs.all fun x => decide (PySem.W.exmOne K (.ref (He.ga K (Str.ofString x))) u = some (decide (x ∈ l)))
theorem catB_ok {cs : List String} {u : Value} {l : List String} {K : PySem.W.Frag} (h : catB cs u l K = true) : Catches K (clT cs K) u fun x => decide (x ∈ l) := fun x C e => by
  obtain ⟨hx, rfl⟩ := clT_of e
  exact of_decide_eq_true (List.all_eq_true.mp h x hx)
def isB (cs : List String) (u : Value) (l : List String) (K : PySem.W.Frag) : Bool := cs.all fun x => decide (PySem.W.kitOne K (.ref (He.ga K (Str.ofString x))) u = some (decide (x ∈ l)))
theorem isB_ok {cs : List String} {u : Value} {l : List String} {K : PySem.W.Frag} (h : isB cs u l K = true) : IsE K (clT cs K) u fun x => decide (x ∈ l) := fun x C e => by
  obtain ⟨hx, rfl⟩ := clT_of e
  exact of_decide_eq_true (List.all_eq_true.mp h x hx)
def excB (x : String) (K : PySem.W.Frag) : Bool :=
  decide (PySem.W.findIn K (.ref (He.ga K (Str.ofString x))) "__getattribute__" = some (some (.builtin "BaseException.__getattribute__"))) &&
  (decide (PySem.W.findIn K (.ref (He.ga K (Str.ofString x))) "__getattr__" = some none) &&
  (decide (PySem.W.subIn K (.ref (He.ga K (Str.ofString x))) (.type "BaseException") = some true) &&
  (PySem.W.hasDictIn K (He.ga K (Str.ofString x)) &&
  (decide (PySem.W.findIn K (.ref (He.ga K (Str.ofString x))) "__class__" = some (some (.builtin "object.__class__"))) &&
  (decide (PySem.W.specialIn K (.builtin "object.__class__") "__get__" = some (some (.builtin "getset_descriptor.__get__"))) &&
  (decide (PySem.W.takesIn K (.builtin "object.__class__") = some true) &&
  decide (PySem.W.mroIn K (He.ga K (Str.ofString x)) (.type "object") = some true)))))))
theorem excB_ok {x : String} {K : PySem.W.Frag} (h : excB x K = true) : ExcC K (He.ga K (Str.ofString x)) := by
  unfold excB at h
  simp only [Bool.and_eq_true, decide_eq_true_eq] at h
  exact ⟨h.1, h.2.1, h.2.2.1, h.2.2.2.1, h.2.2.2.2.1, h.2.2.2.2.2.1, h.2.2.2.2.2.2.1, h.2.2.2.2.2.2.2⟩
theorem qs_raiseOwn {cs : List String} {c : String} {m : Str} {j} {pp p2' pos2 : Pos} (hc : X.calm = true) (tk : Takes X W) (hx : c ∈ cs) (hf : (He.Fa.exc (Str.ofString c)).ok X.K = true) (gC : X.mg (Str.ofString c) = some (.ref (He.ga X.K (Str.ofString c)))) (hg : Gl X (Str.ofString c))
    (hdb : ((Str.ofString c) == ("__debug__" : Str)) = false := by decide) : QS (clT cs X.K) io X W (.Raise (some (.Call (.Name (Str.ofString c) pp) [.Constant (.str m) j p2'] [] pos)) none pos2) (mRaise c) :=
  let h := He.exc_ok hf
  qs_raise hc tk (clT_in hx) (pmk_own PySem.F.excBase_ValueError h.1 gC h.2.1 (raises_own h.2.2.1 h.2.2.2) hg hdb)
end

/-! ### the law's end -/
theorem ints_fz {K : PySem.W.Frag} {T : String → Option Addr} {F : Hp} : ∀ (ns : List Int), FzL K T F (ns.map D.int) (ns.map V.int)
  | [] => .nil
  | n :: ns => .cons (.leaf rfl) (ints_fz ns)
theorem law_sp {K : PySem.W.Frag} {T : String → Option Addr} {m : Fn} {n : Nat} (h : ∀ ns : List Int, ns.length ≤ n → m [.lst false (ns.map D.int)] = .ok (.bl true) []) {H : Hp} {a : Addr} {ns : List Int} {E : XK} (hl : ns.length ≤ n) (hS : SqL K H a (ns.map V.int)) :
    spV K T 1 [] m [.ref a] H (fun v _ => v = .bl true) E := by
  refine ⟨H, [.lst false (ns.map D.int)], fun _ => False, FzL.owl (fun _ q => q) (.cons (.node ⟨trivial, hS⟩ (ints_fz ns)) .nil), Same.refl _, rfl, ?_⟩
  rw [h ns hl]
  intro v F' H' vo P' w1 w2 w3
  have : vo = [] := by cases vo with | nil => rfl | cons _ _ => cases w3
  subst this
  cases w1 with
  | cons o _ _ _ => cases o with | leaf z _ => exact z
end VL

/-! VL13: small ends. -/
namespace VL
open PySem PySem.Spec L2
theorem hu64 {k : Nat} {A : Around} (hr : Room k A) : A.units + 64 < cLine := by have := hr.un; omega
theorem hu65 {k : Nat} {A : Around} (hr : Room k A) : A.units + 65 < cLine := by have := hr.un; omega
theorem cx_none {P : Program} {w : World} {o : List Env} {H : Hp} {s : Shared} {e : Value} {s' : Shared} (c : L2.CX P w o H s (fun _ _ _ => False) e s') : False := by
  obtain ⟨a, B, H', cls, d, rfl, fl, hok, ub, na, os, ag, hE⟩ := c
  exact hE
/-- the law's end: a def of the top that answers True at every script -/
theorem walk_law {l : PySem.W.OpenLaw} {n k : Nat} {q : Program} {loose : List Str} {XP : (Str → Option Value) → Heap → Prop} {YP : World → Heap → Prop} {d : DefRec} {x : Str} {m : Fn} (hn : l.most = some n) (hn2 : n ≤ sizeLine) (hdf : d.params.defaults = []) (hr : Room k callerA)
    (hm : ∀ ns : List Int, ns.length ≤ n → m [.lst false (ns.map D.int)] = .ok (.bl true) [])
    (F : ∀ (w : World) (mg : Str → Option Value) (fa : Addr) (h : Heap), YP w h → h.Ns mainGlobals mg → mg d.name = some (.ref fa) → ∃ (K : PySem.W.Frag) (T : String → Option Addr) (fd : FuncData), K.In h ∧ (∀ (s : Shared) (u : Value), BindsTo s fd ⟨[u], []⟩ [(x, u)]) ∧
      ∀ base : Heap, K.In base → base.Ns mainGlobals mg → FnOk l.prog w K mg base (L2.CX l.prog w) k fa fd [x] (spV K T 1 [] m)) :
    PySem.W.WalkO q loose XP YP l.row.toRowW d [] (fun f vs => PySem.call f vs) := by
  refine Att.attach_call hn hdf fun w s0 s1 mg mb fa o pm cd doc a vs ns G Y ho hd hcd hmg hobj hints hlen hg => ?_
  obtain ⟨K, T, fd, KX, hb, hF⟩ := F w mg fa _ Y G.T.g hmg
  exact law_call (CX := L2.CX l.prog w) KX G.T.g G.T.b G.T.builtins G.T.nolimit hg hobj hints (Nat.le_trans hlen hn2) hr hF hb (fun H _ hS => law_sp hm hlen hS) fun H e s' z => cx_none z
section
variable {T : String → Option Addr} {io : Io} {X : Cx} {W : WX} {p p1 p2 : Bool} {pos : Pos}
/-- a constant of the module -/
theorem qe_gc {x : Str} {s : Sc} {v : V} (hg : Gl X x) (h : ∃ u, X.mg x = some u ∧ RelV v u) (r : ScV s v := by rfl) (hd : (x == ("__debug__" : Str)) = false := by decide) : QE T io X W true (.Name x pos) (M.ret (.leaf s)) := by
  obtain ⟨u, hu, hv⟩ := h
  exact qe_const (pe_glob hg hu hv hd) r
theorem pcs_nil : PA X [] (fun _ H Q => Q [] H) := pa_nil
theorem pcs_cons {e : Expr} {es : List Expr} {v : V} {cs : List V} (h : PE X e (tC v)) (hs : PA X es (fun _ H Q => Q cs H)) (hst : starEach (e :: es) X.env = (false, eval e X.env) :: starEach es X.env := by rfl) : PA X (e :: es) (fun _ H Q => Q (v :: cs) H) := pa_cons h hs hst
/-! the same with the purity as a parameter -/
theorem xqw_and {pp : Bool} {a b : Expr} {rest : List Expr} {ma mb : M Bool} (ha : QT T io X W p1 a ma) (hb : QW T io X W p2 (.BoolOp .And (b :: rest) pos) mb) (hpp : (p1 && p2) = pp := by rfl) : QW T io X W pp (.BoolOp .And (a :: b :: rest) pos) (mAndT ma mb) := by
  subst hpp
  exact qw_and (ha := ha) (hb := hb)
theorem xqw_or {pp : Bool} {a b : Expr} {rest : List Expr} {ma mb : M Bool} (ha : QT T io X W p1 a ma) (hb : QW T io X W p2 (.BoolOp .Or (b :: rest) pos) mb) (hpp : (p1 && p2) = pp := by rfl) : QW T io X W pp (.BoolOp .Or (a :: b :: rest) pos) (mOrT ma mb) := by
  subst hpp
  exact qw_or (ha := ha) (hb := hb)
theorem xqe_and {pp : Bool} {a b : Expr} {rest : List Expr} {ma mb : M D} (ha : QB T io X W p1 a ma) (hb : QE T io X W p2 (.BoolOp .And (b :: rest) pos) mb) (hpp : (p1 && p2) = pp := by rfl) : QE T io X W pp (.BoolOp .And (a :: b :: rest) pos) (mAnd ma mb) := by
  subst hpp
  exact qe_and (ha := ha) (hb := hb)
theorem xqe_or {pp : Bool} {a b : Expr} {rest : List Expr} {ma mb : M D} (ha : QB T io X W p1 a ma) (hb : QE T io X W p2 (.BoolOp .Or (b :: rest) pos) mb) (hpp : (p1 && p2) = pp := by rfl) : QE T io X W pp (.BoolOp .Or (a :: b :: rest) pos) (mOr ma mb) := by
  subst hpp
  exact qe_or (ha := ha) (hb := hb)
theorem xqe_if {pp : Bool} {c a b : Expr} {mc : M Bool} {ma mb : M D} {p3 : Bool} (hc : QT T io X W p1 c mc) (ha : QE T io X W p2 a ma) (hb : QE T io X W p3 b mb) (hpp : (p1 && (p2 && p3)) = pp := by rfl) : QE T io X W pp (.IfExp c a b pos) (mIf mc ma mb) := by
  subst hpp
  exact qe_if (hc := hc) (ha := ha) (hb := hb)
theorem xqa_cons {pp : Bool} {e : Expr} {es : List Expr} {a : M D} {b : M (List D)} (ha : QE T io X W p1 e a) (hb : QA T io X W p2 es b) (hs : starEach (e :: es) X.env = (false, eval e X.env) :: starEach es X.env := by rfl) (hpp : (p1 && p2) = pp := by rfl) : QA T io X W pp (e :: es) (mCons a b) := by
  subst hpp
  exact qa_cons (ha := ha) (hb := hb) (hs := hs)
theorem xqai_cons {pp : Bool} {e : Expr} {es : List Expr} {bk : List (Option Nat)} {a : M D} {b : M (List D)} (ha : QE T io X W p1 e a) (hb : QAI T io X W p2 bk es b) (hs : starEach (e :: es) X.env = (false, eval e X.env) :: starEach es X.env := by rfl) (hpp : (p1 && p2) = pp := by rfl) : QAI T io X W pp (none :: bk) (e :: es) (mCons a b) := by
  subst hpp
  exact qai_cons (ha := ha) (hb := hb) (hs := hs)
theorem xqe_comp {pp : Bool} {ol : List Nat} {elt tg src : Expr} {ifs : List Expr} {scope : Scope} {own : List (Str × Nat)} {ms : M (List D)} {el : M D} {g : Gt} {sl : List Nat} {pg : Bool} {c : M Bool} (hc : X.calm = true) (hN : X.N.Nodup) (ok : BlkOk X.N X.env.scope scope own) (hsrc : QI T io X W p tg src ms) (hg : ∀ (s : Shared) (H : Hp) (C : Addr) (cl : List (Str × Addr)) (fp : List Addr), QG T io (X.blk s H scope (compEnvC scope cl C X.env) fp) sl pg tg g) (ht : ∀ (s : Shared) (H : Hp) (C : Addr) (cl : List (Str × Addr)) (fp : List Addr), QTs T io (X.blk s H scope (compEnvC scope cl C X.env) fp) W0 p1 ifs c) (he : ∀ (s : Shared) (H : Hp) (C : Addr) (cl : List (Str × Addr)) (fp : List Addr), QE T io (X.blk s H scope (compEnvC scope cl C X.env) fp) W0 p2 elt el) (hsl : ∀ j ∈ sl, j ∈ own.map (·.2)) (hio : ∀ j ∈ io.l, j ∉ own.map (·.2)) (hs : ∀ x, foldedSetIterable src X.env x = pure x := by intro _; rfl) (hpp : (p && (pg && (p1 && p2))) = pp := by rfl) (hol : (own.map (·.2)) = ol := by rfl) : QE T io X W pp (.ListComp elt [⟨tg, src, ifs, 0⟩] scope pos) (mComp ol ms g c el) := by
  subst hpp
  subst hol
  exact qe_comp (hc := hc) (hN := hN) (ok := ok) (hsrc := hsrc) (hg := hg) (ht := ht) (he := he) (hsl := hsl) (hio := hio) (hs := hs)
theorem xqs_setComp {ol : List Nat} {i : Nat} {y : Str} {py spos : Pos} {elt tg src : Expr} {ifs : List Expr} {scope : Scope} {own : List (Str × Nat)} {ms : M (List D)} {el : M D} {g : Gt} {sl : List Nat} {pg : Bool} {c : M Bool} (hc : X.calm = true) (hN : X.N.Nodup) (hy : X.N[i]? = some y) (hyl : X.env.scope.names.lookup y = some .local) (hsw : swapsWith (.ListComp elt [⟨tg, src, ifs, 0⟩] scope pos) (some (.Name y py)) spos.line X.env = pure true) (ok : BlkOk X.N X.env.scope scope own) (hsrc : QI T io X W p tg src ms) (hyo : i ∉ io.l) (hg : ∀ (s : Shared) (H : Hp) (C : Addr) (cl : List (Str × Addr)) (fp : List Addr), QG T io (X.blk s H scope (compEnvC scope cl C X.env) fp) sl pg tg g) (ht : ∀ (s : Shared) (H : Hp) (C : Addr) (cl : List (Str × Addr)) (fp : List Addr), QTs T io (X.blk s H scope (compEnvC scope cl C X.env) fp) W0 p1 ifs c) (he : ∀ (s : Shared) (H : Hp) (C : Addr) (cl : List (Str × Addr)) (fp : List Addr), QE T io (X.blk s H scope (compEnvC scope cl C X.env) fp) W0 p2 elt el) (hsl : ∀ j ∈ sl, j ∈ own.map (·.2)) (hio : ∀ j ∈ io.l, j ∉ own.map (·.2)) (hs : ∀ x, foldedSetIterable src X.env x = pure x := by intro _; rfl) (hol : (own.map (·.2)) = ol := by rfl) : QS T io X W (.Assign [.Name y py] (.ListComp elt [⟨tg, src, ifs, 0⟩] scope pos) spos) (mAsg (mComp ol ms g c el) (gPut i)) := by
  subst hol
  exact qs_setComp (hc := hc) (hN := hN) (hy := hy) (hyl := hyl) (hsw := hsw) (ok := ok) (hsrc := hsrc) (hyo := hyo) (hg := hg) (ht := ht) (he := he) (hsl := hsl) (hio := hio) (hs := hs)
end
end VL

/-! VL14: the plain laws' tools: how the data functions run. -/
namespace VL
open PySem PySem.Spec L2

/-- an equation that simp is to use by its proof -/
theorem nr {α : Sort _} {a b : α} (h : a = b) : a = b := h
def R.andThen {α β : Type} : R α → (α → M β) → R β
  | .ok a r, k => k a r
  | .ex c r, _ => .ex c r
  | .no, _ => .no
@[simp] theorem andThen_ok {α β : Type} (a : α) (r : VS) (k : α → M β) : (R.ok a r).andThen k = k a r := nr rfl
@[simp] theorem andThen_ex {α β : Type} (c : String) (r : VS) (k : α → M β) : (R.ex c r : R α).andThen k = .ex c r := nr rfl
@[simp] theorem andThen_no {α β : Type} (k : α → M β) : (R.no : R α).andThen k = .no := nr rfl
@[simp] theorem bind_app {α β : Type} (m : M α) (k : α → M β) (r : VS) : M.bind m k r = (m r).andThen k := by
  unfold M.bind
  cases m r <;> rfl
@[simp] theorem ret_app {α : Type} (a : α) (r : VS) : M.ret a r = .ok a r := nr rfl
@[simp] theorem no_app {α : Type} (r : VS) : (M.no : M α) r = .no := nr rfl
@[simp] theorem opt_some {α : Type} (a : α) (r : VS) : M.opt (some a) r = .ok a r := nr rfl
@[simp] theorem opt_none {α : Type} (r : VS) : M.opt (none : Option α) r = .no := nr rfl
@[simp] theorem ck_true (r : VS) : M.ck true r = .ok () r := nr rfl
@[simp] theorem ck_dec {p : Prop} [Decidable p] (h : p) (r : VS) : M.ck (decide p) r = .ok () r := by rw [decide_eq_true h]; rfl
@[simp] theorem slot0 (d : D) (r : VS) : slot? 0 (some d :: r) = some d := nr rfl
@[simp] theorem slotS (i : Nat) (x : Option D) (r : VS) : slot? (i + 1) (x :: r) = slot? i r := nr rfl
@[simp] theorem mPeek_app (i : Nat) (r : VS) : mPeek i r = match slot? i r with | some d => .ok d r | none => .no := nr rfl
@[simp] theorem mMove_app (i : Nat) (r : VS) : mMove i r = match slot? i r with | some d => .ok d (r.set i none) | none => .no := nr rfl
@[simp] theorem mVar_app (i : Nat) (r : VS) : mVar i r = match slot? i r with | some d => if d.shr then .ok d r else .ok d.frz (r.set i (some d.frz)) | none => .no := nr rfl
@[simp] theorem shr_leaf (s : Sc) : (D.leaf s).shr = true := nr rfl
@[simp] theorem shr_node (o : Bool) (k : Kn) (ds : List D) : (D.node o k ds).shr = !o := nr rfl
@[simp] theorem frz_leaf (s : Sc) : (D.leaf s).frz = .leaf s := by simp [D.frz]
@[simp] theorem frz_node (o : Bool) (k : Kn) (ds : List D) : (D.node o k ds).frz = .node false k (D.frzL ds) := by simp [D.frz]
@[simp] theorem frzL_nil : D.frzL [] = [] := by simp [D.frzL]
@[simp] theorem frzL_cons (d : D) (ds : List D) : D.frzL (d :: ds) = d.frz :: D.frzL ds := by simp [D.frzL]
@[simp] theorem frzL_ints (ns : List Int) : D.frzL (ns.map D.int) = ns.map D.int := by
  rw [frzL_map, List.map_map]
  refine List.map_congr_left fun n _ => ?_
  exact frz_leaf _
@[simp] theorem shr_ints (ns : List Int) : (ns.map D.int).all D.shr = true := by
  rw [List.all_map, List.all_eq_true]
  intro n _
  rfl
@[simp] theorem mOp1_app (f : D → Option D) (a : M D) (r : VS) : mOp1 f a r = (a r).andThen fun x => M.opt (f x) := by simp [mOp1]
@[simp] theorem mOp2_app (f : D → D → Option D) (a b : M D) (r : VS) : mOp2 f a b r = (a r).andThen fun x r => (b r).andThen fun y => M.opt (f x y) := by
  simp only [mOp2, bind_app]
  congr 1
  funext x r
  exact bind_app ..
@[simp] theorem mOpN_app (f : List D → Option D) (a : M (List D)) (r : VS) : mOpN f a r = (a r).andThen fun x => M.opt (f x) := by simp [mOpN]
@[simp] theorem mNil_app (r : VS) : mNil r = .ok [] r := nr rfl
@[simp] theorem mCons_app (a : M D) (b : M (List D)) (r : VS) : mCons a b r = (a r).andThen fun d r => (b r).andThen fun ds r => .ok (d :: ds) r := by
  simp only [mCons, bind_app]
  congr 1
  funext x r
  rw [bind_app]
  rfl
@[simp] theorem mTest_app (a : M D) (r : VS) : mTest a r = (a r).andThen fun d => M.opt d.bl? := bind_app ..
@[simp] theorem bl?_bl (b : Bool) : (D.leaf (.bl b)).bl? = some b := nr rfl
@[simp] theorem mNotT_app (a : M Bool) (r : VS) : mNotT a r = (a r).andThen fun b r => .ok (!b) r := bind_app ..
@[simp] theorem mAndT_app (a b : M Bool) (r : VS) : mAndT a b r = (a r).andThen fun x r => if x = true then b r else .ok false r := by
  simp only [mAndT, bind_app]; congr 1; funext x r; split <;> rfl
@[simp] theorem mOrT_app (a b : M Bool) (r : VS) : mOrT a b r = (a r).andThen fun x r => if x = true then .ok true r else b r := by
  simp only [mOrT, bind_app]; congr 1; funext x r; split <;> rfl
@[simp] theorem mAnd_app (a b : M D) (r : VS) : mAnd a b r = (a r).andThen fun x r => (M.opt x.bl? r).andThen fun c r => if c = true then b r else .ok (.bl false) r := by
  simp only [mAnd, bind_app]; congr 1; funext x r; rw [bind_app]; congr 1; funext c r; split <;> rfl
@[simp] theorem mOr_app (a b : M D) (r : VS) : mOr a b r = (a r).andThen fun x r => (M.opt x.bl? r).andThen fun c r => if c = true then .ok (.bl true) r else b r := by
  simp only [mOr, bind_app]; congr 1; funext x r; rw [bind_app]; congr 1; funext c r; split <;> rfl
@[simp] theorem mNot_app (a : M D) (r : VS) : mNot a r = (a r).andThen fun x r => (M.opt x.bl? r).andThen fun c r => .ok (.bl (!c)) r := by
  simp only [mNot, bind_app]; congr 1; funext x r; rw [bind_app]; rfl
@[simp] theorem mIf_app (c : M Bool) (a b : M D) (r : VS) : mIf c a b r = (c r).andThen fun x r => if x = true then a r else b r := by
  simp only [mIf, bind_app]; congr 1; funext x r; split <;> rfl
@[simp] theorem mIfS_app (c : M Bool) (a b : M Fl) (r : VS) : mIfS c a b r = (c r).andThen fun x r => if x = true then a r else b r := by
  simp only [mIfS, bind_app]; congr 1; funext x r; split <;> rfl
@[simp] theorem mSh_app (a : M D) (r : VS) : mSh a r = (a r).andThen fun d r => (M.ck d.shr r).andThen fun _ r => .ok d r := by
  simp only [mSh, bind_app]; congr 1; funext x r; rw [bind_app]; rfl
@[simp] theorem mIx_app (a b : M D) (r : VS) : mIx a b r = (a r).andThen fun x r => (b r).andThen fun y => M.opt (fIx x y) := mOp2_app ..
@[simp] theorem mIsi_app (f : String → Bool) (a : M D) (r : VS) : mIsi f a r = (a r).andThen fun d r => (M.ck (noIns d) r).andThen fun _ r => .ok (.bl (f (tyD d))) r := by
  simp only [mIsi, bind_app]; congr 1; funext x r; rw [bind_app]; rfl
@[simp] theorem mLst_app (a : M (List D)) (r : VS) : mLst a r = (a r).andThen fun ds r => (M.ck (decide (ds.length ≤ sizeLine)) r).andThen fun _ r => .ok (.lst true ds) r := by
  simp only [mLst, bind_app]; congr 1; funext x r; rw [bind_app]; rfl
@[simp] theorem mTup_app (a : M (List D)) (r : VS) : mTup a r = (a r).andThen fun ds r => (M.ck (decide (ds.length ≤ sizeLine)) r).andThen fun _ r => .ok (.tup (!ds.all D.shr) ds) r := by
  simp only [mTup, bind_app]; congr 1; funext x r; rw [bind_app]; rfl
@[simp] theorem gPut_app (i : Nat) (d : D) (r : VS) : gPut i d r = if i < r.length then some (r.set i (some d)) else none := nr rfl
@[simp] theorem mAsg_app (a : M D) (g : Gt) (r : VS) : mAsg a g r = (a r).andThen fun d r => match g d r with | some r' => .ok .nx r' | none => .no := by
  simp only [mAsg, bind_app]; rfl
@[simp] theorem mDrop_app (a : M D) (r : VS) : mDrop a r = (a r).andThen fun _ r => .ok .nx r := bind_app ..
@[simp] theorem mRet_app (a : M D) (r : VS) : mRet a r = (a r).andThen fun d r => .ok (.rt d) r := bind_app ..
@[simp] theorem mRaise_app (c : String) (r : VS) : mRaise c r = .ex c r := nr rfl
@[simp] theorem mSeq_app (a b : M Fl) (r : VS) : mSeq a b r = (a r).andThen fun f r => match f with | .nx => b r | f => .ok f r := by
  simp only [mSeq, bind_app]; congr 1; funext f r; cases f <;> rfl
@[simp] theorem mCallB_app (np : Nat) (fn : Fn) (a : M (List D)) (r : VS) : mCallB np fn a r = (a r).andThen fun ds r => (M.ck (decide (ds.length = np)) r).andThen fun _ r => runB fn (D.frzL ds) r := by
  simp only [mCallB, bind_app]; congr 1; funext f r; rw [bind_app]
@[simp] theorem mCallF_app (np : Nat) (fn : Fn) (a : M (List D)) (r : VS) : mCallF np fn a r = (a r).andThen fun ds r => (M.ck (decide (ds.length = np)) r).andThen fun _ r => runF fn (D.frzL ds) r := by
  simp only [mCallF, bind_app]; congr 1; funext f r; rw [bind_app]
theorem runB_ok {fn : Fn} {ds : List D} {s : Sc} (h : fn ds = .ok (.leaf s) []) (r : VS) : runB fn ds r = .ok (.leaf s) r := by unfold runB; rw [h]
theorem runB_ex {fn : Fn} {ds : List D} {c : String} (h : fn ds = .ex c []) (r : VS) : runB fn ds r = .ex c r := by unfold runB; rw [h]
theorem runF_ok {fn : Fn} {ds : List D} {d : D} (h : fn ds = .ok d []) (r : VS) : runF fn ds r = .ok d r := by unfold runF; rw [h]
theorem runF_ex {fn : Fn} {ds : List D} {c : String} (h : fn ds = .ex c []) (r : VS) : runF fn ds r = .ex c r := by unfold runF; rw [h]
/-! the operators on numbers -/
section
variable (i j : Int)
@[simp] theorem fLt_int : fLt (.int i) (.int j) = some (.bl (decide (i < j))) := nr rfl
@[simp] theorem fLe_int : fLe (.int i) (.int j) = some (.bl (decide (i ≤ j))) := nr rfl
@[simp] theorem fGt_int : fGt (.int i) (.int j) = some (.bl (decide (j < i))) := nr rfl
@[simp] theorem fGe_int : fGe (.int i) (.int j) = some (.bl (decide (j ≤ i))) := nr rfl
@[simp] theorem fAdd_int : fAdd (.int i) (.int j) = some (.int (i + j)) := nr rfl
@[simp] theorem fSub_int : fSub (.int i) (.int j) = some (.int (i - j)) := nr rfl
@[simp] theorem fNeg_int : fNeg (.int i) = some (.int (-i)) := nr rfl
@[simp] theorem fAbs_int : fAbs [.int i] = some (.int (if i < 0 then -i else i)) := nr rfl
@[simp] theorem fIntC_int : fIntC [.int i] = some (.int i) := nr rfl
@[simp] theorem fIntC_bl (b : Bool) : fIntC [.bl b] = some (.int (if b then 1 else 0)) := nr rfl
@[simp] theorem fMax2_int : fMax2 [.int i, .int j] = some (.int (if j > i then j else i)) := nr rfl
@[simp] theorem fMin2_int : fMin2 [.int i, .int j] = some (.int (if j < i then j else i)) := nr rfl
theorem fInt2_if (c : Int → Int → Bool) (g : Int → Int → Int) : fInt2 c g (.int i) (.int j) = if c i j = true then some (.int (g i j)) else none := nr rfl
theorem fMod_int (h : 0 < j) : fMod (.int i) (.int j) = some (.int (i % j)) := by simp only [fMod, fInt2_if, decide_eq_true h, if_true]
theorem fDiv_int (h : 0 < j) (h2 : j < 1073741824) : fDiv (.int i) (.int j) = some (.int (i / j)) := by simp only [fDiv, fInt2_if, decide_eq_true (And.intro h h2), if_true]
theorem fMul_int (h : (-(2 ^ 64) < i ∧ i < 2 ^ 64) ∨ (-(2 ^ 64) < j ∧ j < 2 ^ 64)) : fMulI (.int i) (.int j) = some (.int (i * j)) := by simp only [fMulI, fInt2_if, decide_eq_true h, if_true]
theorem fPow_int (h : 0 ≤ j ∧ j ≤ 1000000 ∧ i.natAbs < 2 ^ 64) : fPow (.int i) (.int j) = some (.int (i ^ j.toNat)) := by simp only [fPow, fInt2_if, decide_eq_true h, if_true]
end
@[simp] theorem fLen_lst (o : Bool) (ds : List D) : fLen [.node o .lst ds] = some (.int ds.length) := nr rfl
@[simp] theorem fLen_tup (o : Bool) (ds : List D) : fLen [.node o .tup ds] = some (.int ds.length) := nr rfl
theorem fIx_lst (o : Bool) (ds : List D) (i : Int) : fIx (.node o .lst ds) (.int i) = atI ds i := nr rfl
theorem fIx_tup (o : Bool) (ds : List D) (i : Int) : fIx (.node o .tup ds) (.int i) = atI ds i := nr rfl
theorem ixN_nat {n k : Nat} (h : k < n) : ixN n (k : Int) = some k := by
  unfold ixN
  simp [h]
theorem atI_nat {α : Type} {l : List α} {k : Nat} (h : k < l.length) : atI l (k : Int) = l[k]? := by
  unfold atI
  rw [ixN_nat h]
  rfl

/-! ### loops -/
theorem mWhile_eqn (c : M Bool) (b : M Fl) (r : VS) : mWhile c b r = M.bind c (fun x => if x = true then M.bind b (loopK (mWhile c b)) else M.ret .nx) r := by
  have conv : ∀ (n : Nat) (f : Fl) (r : VS), loopK (whileN c b n) f r ≠ .no → loopK (mWhile c b) f r = loopK (whileN c b n) f r := by
    intro n f r h
    cases f with
    | nx => exact mWhile_eq h
    | ct => exact mWhile_eq h
    | bk => rfl
    | rt d => rfl
  by_cases hn : ∃ n, whileN c b n r ≠ .no
  · obtain ⟨n, hn⟩ := hn
    rw [mWhile_eq hn]
    cases n with
    | zero => exact absurd rfl hn
    | succ n =>
      have step : whileN c b (n + 1) r = M.bind c (fun x => if x = true then M.bind b (loopK (whileN c b n)) else M.ret .nx) r := rfl
      rw [step] at hn ⊢
      simp only [bind_app] at hn ⊢
      cases e : c r with
      | no => rfl
      | ex _ _ => rfl
      | ok x r1 =>
        rw [e] at hn
        simp only [andThen_ok] at hn ⊢
        cases x with
        | false => rfl
        | true =>
          rw [if_pos rfl] at hn ⊢
          rw [if_pos rfl]
          simp only [bind_app] at hn ⊢
          cases e2 : b r1 with
          | no => rfl
          | ex _ _ => rfl
          | ok f r2 =>
            rw [e2] at hn
            simp only [andThen_ok] at hn ⊢
            exact (conv n f r2 hn).symm
  · have e0 : mWhile c b r = .no := by unfold mWhile; rw [dif_neg hn]
    rw [e0]
    refine (Classical.byContradiction fun q => ?_ : M.bind c _ r = .no).symm
    refine hn ?_
    simp only [bind_app] at q
    cases e : c r with
    | no => rw [e] at q; exact absurd rfl q
    | ex cc r1 => exact ⟨1, by show M.bind c _ r ≠ _; rw [bind_app, e]; exact fun z => nomatch z⟩
    | ok x r1 =>
      rw [e] at q
      simp only [andThen_ok] at q
      cases x with
      | false => exact ⟨1, by show M.bind c _ r ≠ _; rw [bind_app, e]; exact fun z => nomatch z⟩
      | true =>
        rw [if_pos rfl, bind_app] at q
        have one : ∀ n, whileN c b (n + 1) r = (b r1).andThen (loopK (whileN c b n)) := fun n => by
          show M.bind c _ r = _
          rw [bind_app, e, andThen_ok, if_pos rfl, bind_app]
        cases e2 : b r1 with
        | no => rw [e2] at q; exact absurd rfl q
        | ex cc r2 => exact ⟨1, by rw [one, e2]; exact fun z => nomatch z⟩
        | ok f r2 =>
          rw [e2] at q
          simp only [andThen_ok] at q
          have inner : (∃ n, loopK (whileN c b n) f r2 ≠ .no) := by
            have go : mWhile c b r2 ≠ .no → ∃ n, whileN c b n r2 ≠ .no := fun z => Classical.byContradiction fun y => z (by unfold mWhile; rw [dif_neg y])
            cases f with
            | nx => exact go q
            | ct => exact go q
            | bk => exact ⟨0, fun z => nomatch z⟩
            | rt d => exact ⟨0, fun z => nomatch z⟩
          obtain ⟨n, hn2⟩ := inner
          exact ⟨n + 1, by rw [one, e2]; exact hn2⟩
theorem while_stop {c : M Bool} {b : M Fl} {r r1 : VS} (h : c r = .ok false r1) : mWhile c b r = .ok .nx r1 := by
  rw [mWhile_eqn, bind_app, h]; rfl
theorem while_turn {c : M Bool} {b : M Fl} {r r1 r2 : VS} (h : c r = .ok true r1) (h2 : b r1 = .ok .nx r2) : mWhile c b r = mWhile c b r2 := by
  rw [mWhile_eqn, bind_app, h, andThen_ok, if_pos rfl, bind_app, h2]; rfl
theorem while_ret {c : M Bool} {b : M Fl} {r r1 r2 : VS} {d : D} (h : c r = .ok true r1) (h2 : b r1 = .ok (.rt d) r2) : mWhile c b r = .ok (.rt d) r2 := by
  rw [mWhile_eqn, bind_app, h, andThen_ok, if_pos rfl, bind_app, h2]; rfl
theorem while_ex {c : M Bool} {b : M Fl} {r r1 r2 : VS} {x : String} (h : c r = .ok true r1) (h2 : b r1 = .ex x r2) : mWhile c b r = .ex x r2 := by
  rw [mWhile_eqn, bind_app, h, andThen_ok, if_pos rfl, bind_app, h2]; rfl
@[simp] theorem mFor_app (src : M (List D)) (g : Gt) (b : M Fl) (r : VS) : mFor src g b r = (src r).andThen (mForL g b) := bind_app ..
@[simp] theorem forL_nil (g : Gt) (b : M Fl) (r : VS) : mForL g b [] r = .ok .nx r := nr rfl
theorem forL_cons (g : Gt) (b : M Fl) (d : D) (ds : List D) (r : VS) : mForL g b (d :: ds) r = (mTo g d r).andThen fun _ r => (b r).andThen (loopK (mForL g b ds)) := by
  show M.bind _ _ r = _
  rw [bind_app]; congr 1; funext x r; exact bind_app ..
theorem forL_turn {g : Gt} {b : M Fl} {d : D} {ds : List D} {r r1 r2 : VS} (h : g d r = some r1) (h2 : b r1 = .ok .nx r2) : mForL g b (d :: ds) r = mForL g b ds r2 := by
  rw [forL_cons]; unfold mTo; rw [h]; simp only [andThen_ok]; rw [h2]; rfl
theorem forL_ret {g : Gt} {b : M Fl} {d e : D} {ds : List D} {r r1 r2 : VS} (h : g d r = some r1) (h2 : b r1 = .ok (.rt e) r2) : mForL g b (d :: ds) r = .ok (.rt e) r2 := by
  rw [forL_cons]; unfold mTo; rw [h]; simp only [andThen_ok]; rw [h2]; rfl
/-- a walk that keeps a relation of the state, by the number of items behind -/
theorem forL_inv {g : Gt} {b : M Fl} {ds : List D} {I : Nat → VS → Prop} {r : VS} (h0 : I 0 r) (h : ∀ i d r, ds[i]? = some d → I i r → ∃ r1 r2, g d r = some r1 ∧ b r1 = .ok .nx r2 ∧ I (i + 1) r2) : ∃ r', mForL g b ds r = .ok .nx r' ∧ I ds.length r' := by
  induction ds generalizing I r with
  | nil => exact ⟨r, rfl, h0⟩
  | cons d ds ih =>
    obtain ⟨r1, r2, e1, e2, h2⟩ := h 0 d r rfl h0
    obtain ⟨r', e3, h3⟩ := ih (I := fun i r => I (i + 1) r) h2 fun i d r e hi => h (i + 1) d r (by simpa using e) hi
    exact ⟨r', by rw [forL_turn e1 e2, e3], h3⟩
@[simp] theorem iRg1_app (a : M D) (r : VS) : iRg1 a r = (a r).andThen fun d r => (M.opt (int? d) r).andThen fun j r => (M.ck (bnd j) r).andThen fun _ r => .ok (rangeL 0 j.toNat) r := by
  simp only [iRg1, bind_app]; congr 1; funext x r; rw [bind_app]; congr 1; funext x r; rw [bind_app]; rfl
@[simp] theorem iRg2_app (a c : M D) (r : VS) : iRg2 a c r = (a r).andThen fun d r => (c r).andThen fun e r => (M.opt (int? d) r).andThen fun i r => (M.opt (int? e) r).andThen fun j r => (M.ck (bnd i && bnd j) r).andThen fun _ r => .ok (rangeL i (j - i).toNat) r := by
  simp only [iRg2, bind_app]; congr 1; funext x r; rw [bind_app]; congr 1; funext x r; rw [bind_app]; congr 1; funext x r; rw [bind_app]; congr 1; funext x r; rw [bind_app]; rfl
@[simp] theorem int?_int (i : Int) : int? (.int i) = some i := nr rfl
@[simp] theorem iSeq_app (a : M D) (r : VS) : iSeq a r = (a r).andThen fun d r => (M.opt (seq? d) r).andThen fun ds r => .ok (D.frzL ds) r := by
  simp only [iSeq, bind_app]; congr 1; funext x r; rw [bind_app]; rfl
@[simp] theorem seq?_lst (o : Bool) (ds : List D) : seq? (.node o .lst ds) = some ds := nr rfl
@[simp] theorem seq?_tup (o : Bool) (ds : List D) : seq? (.node o .tup ds) = some ds := nr rfl
theorem rangeL_get {lo : Int} {n i : Nat} {d : D} (h : (rangeL lo n)[i]? = some d) : i < n ∧ d = .int (lo + (i : Nat)) := by
  unfold rangeL at h
  rw [List.getElem?_map] at h
  cases e : (List.range n)[i]? with
  | none => rw [e] at h; cases h
  | some j =>
    rw [e] at h; cases h
    obtain ⟨h1, h2⟩ := List.getElem?_eq_some_iff.mp e
    rw [List.getElem_range] at h2
    subst h2
    exact ⟨by simpa using h1, rfl⟩
@[simp] theorem rangeL_length (lo : Int) (n : Nat) : (rangeL lo n).length = n := by simp [rangeL]
/-! ### comprehensions -/
@[simp] theorem mComp_app (own : List Nat) (src : M (List D)) (g : Gt) (c : M Bool) (el : M D) (r : VS) : mComp own src g c el r = (src r).andThen (lcRun own g c el) := bind_app ..
@[simp] theorem lcL_nil (own : List Nat) (g : Gt) (c : M Bool) (el : M D) (acc : List D) (r : VS) : lcL own g c el [] acc r = .ok acc (hide own r) := nr rfl
theorem lcL_yes {own : List Nat} {g : Gt} {el : M D} {d y : D} {ds acc : List D} {r r1 r2 : VS} (h : g d (hide own r) = some r1) (h2 : el r1 = .ok y r2) (h3 : acc.length < sizeLine) : lcL own g mYes el (d :: ds) acc r = lcL own g mYes el ds (acc ++ [y]) r2 := by
  show M.bind (mHide own) _ r = _
  rw [bind_app]
  show M.bind (mToU g d) _ (hide own r) = _
  rw [bind_app]
  unfold mToU
  rw [h]
  simp only [andThen_ok, bind_app]
  show (M.bind (M.calm el) _ r1) = _
  rw [bind_app]
  unfold M.calm
  rw [h2]
  simp only [andThen_ok, bind_app, ck_dec h3]
/-- [f(d) for d in ds], where the state behind each item is r0 again -/
theorem lcRun_map {own : List Nat} {g : Gt} {el : M D} {ds : List D} {r0 r : VS} {f : D → D} (hr : hide own r = r0) (h : ∀ d ∈ ds, ∃ r1 r2, g d r0 = some r1 ∧ el r1 = .ok (f d) r2 ∧ hide own r2 = r0) (hl : ds.length ≤ sizeLine) :
    lcRun own g mYes el ds r = .ok (.lst true (ds.map f)) (unhide own r r0) := by
  have key : ∀ (ds acc : List D) (r : VS), hide own r = r0 → (∀ d ∈ ds, ∃ r1 r2, g d r0 = some r1 ∧ el r1 = .ok (f d) r2 ∧ hide own r2 = r0) → acc.length + ds.length ≤ sizeLine → lcL own g mYes el ds acc r = .ok (acc ++ ds.map f) r0 := by
    intro ds
    induction ds with
    | nil => intro acc r hr _ _; rw [lcL_nil, hr]; simp
    | cons d ds ih =>
      intro acc r hr h hl
      obtain ⟨r1, r2, e1, e2, e3⟩ := h d List.mem_cons_self
      rw [lcL_yes (by rw [hr]; exact e1) e2 (by simp at hl; omega), ih _ _ e3 (fun x hx => h x (List.mem_cons_of_mem _ hx)) (by simp at hl ⊢; omega)]
      simp
  unfold lcRun
  rw [key ds [] r hr h (by simpa using hl)]
  simp
theorem bls?_map {α : Type} (f : α → Bool) : ∀ l : List α, bls? (l.map fun x => D.bl (f x)) = some (l.map f)
  | [] => rfl
  | a :: l => by simp only [List.map_cons, bls?, bls?_map f l]; rfl
theorem fAll_map {α : Type} (o : Bool) (f : α → Bool) (l : List α) : fAll [.node o .lst (l.map fun x => D.bl (f x))] = some (.bl (l.all f)) := by
  show (bls? _).map _ = _
  rw [bls?_map]
  simp
theorem fAny_map {α : Type} (o : Bool) (f : α → Bool) (l : List α) : fAny [.node o .lst (l.map fun x => D.bl (f x))] = some (.bl (l.any f)) := by
  show (bls? _).map _ = _
  rw [bls?_map]
  simp
/-! ### equality of lists of numbers -/
theorem pyL_ints : ∀ ns : List Int, D.pyL (ns.map D.int) = some (ns.map PyData.int)
  | [] => by simp [D.pyL]
  | n :: ns => by simp [D.pyL, D.py, pyL_ints ns]
theorem shaped_ints (ns : List Int) : SeqAt.shaped (.list (ns.map .int)) = true := by
  simp [SeqAt.shaped, PyData.canLay0, PyData.depth, PySem.W.ke_canLayAll0, PySem.W.ke_depthAll]
theorem eqPy_ints (o o' : Bool) (ns ms : List Int) : eqPy (.node o .lst (ns.map D.int)) (.node o' .lst (ms.map D.int)) = some (decide (ns = ms)) := by
  unfold eqPy
  simp only [D.py, pyL_ints, Option.map_some, shaped_ints, and_self, if_true, PyData.eqv, PySem.W.ked_eqvAll]
theorem fNe_ints (o o' : Bool) (ns ms : List Int) : fNe (.node o .lst (ns.map D.int)) (.node o' .lst (ms.map D.int)) = some (.bl (!decide (ns = ms))) := by unfold fNe; rw [eqPy_ints]; rfl
theorem fEq_ints (o o' : Bool) (ns ms : List Int) : fEq (.node o .lst (ns.map D.int)) (.node o' .lst (ms.map D.int)) = some (.bl (decide (ns = ms))) := by unfold fEq; rw [eqPy_ints]; rfl
@[simp] theorem fEq_int (i j : Int) : fEq (.int i) (.int j) = some (.bl (decide (i = j))) := by
  unfold fEq eqPy
  simp [D.py, SeqAt.shaped, PyData.canLay0, PyData.depth, PyData.eqv]
  exact Bool.eq_iff_iff.mpr (by simp)
@[simp] theorem fNe_int (i j : Int) : fNe (.int i) (.int j) = some (.bl (!decide (i = j))) := by
  unfold fNe eqPy
  simp [D.py, SeqAt.shaped, PyData.canLay0, PyData.depth, PyData.eqv]
  exact Bool.eq_iff_iff.mpr (by simp)
end VL

/-! VL15: more constructs. -/
namespace VL
open PySem PySem.Spec L2
section
variable {T : String → Option Addr} {io : Io} {X : Cx} {W : WX} {p p1 p2 : Bool} {pos : Pos}
/-- x op= e, numbers -/
def slotI (i : Nat) : M Int := fun r => match slot? i r with
  | some (.leaf (.int a)) => .ok a r
  | _ => .no
def mAug (i : Nat) (f : Int → Int → Int) (e : M D) : M Fl := M.bind (slotI i) fun a => M.bind e fun d => M.bind (M.opt (int? d)) fun b => mTo (gPut i) (.int (f a b))
theorem qs_aug {i : Nat} {x : Str} {op : Operator} {f : Int → Int → Int} {e : Expr} {pos' : Pos} {m : M D} (ho : PIp X op (ipI f)) (hN : X.N.Nodup) (hi : X.N[i]? = some x) (hx : Loc X.env.scope x) (hv : Vis X.env.scope x) (hio : i ∉ io.l) (he : QB T io X W p e m)
    (hf : X.fn x = true ∨ X.env.scope.names.lookup x = some .local := by first | exact .inl rfl | exact .inr rfl | assumption) : QS T io X W (.AugAssign (.Name x pos') op e pos) (mAug i f m) :=
  fun G g => PS.imp (ps_aug hN hi hx (he G g) ho hf) fun B σ H ⟨F, r, t, tv, h1, h2⟩ => by
    have q := sat_bind h2
    unfold slotI at q
    split at q
    · rename_i a ea
      obtain ⟨v, ev, lk⟩ := h1.look (slot?_eq ea)
      cases lk_leaf lk
      refine ⟨_, ev, F, r, t, tv, h1, (sat_bind q).mono (fun d r1 q v F1 H1 s1 z1 h3 lk2 => ?_) fun _ _ q => q.toP⟩
      obtain ⟨b, eb, q⟩ := sat_opt (sat_bind q)
      obtain ⟨r2, e2, q⟩ := sat_to q
      unfold gPut at e2
      split at e2
      · rename_i hl
        cases e2
        refine ⟨a, b, rfl, lk_int lk2 eb, ?_⟩
        exact q _ F1 H1 s1 ((h3.push (d := .int (f a b)) (v := .int (f a b)) (.leaf rfl)).put hl fun w e => absurd (g.1 i w e) hio)
      · cases e2
    · exact q.elim
/-! ### calls with defaults left out -/
inductive ScVs : List Sc → List V → Prop
  | nil : ScVs [] []
  | cons {s : Sc} {v : V} {ss : List Sc} {vs : List V} : ScV s v → ScVs ss vs → ScVs (s :: ss) (v :: vs)
theorem ScVs.fz {K : PySem.W.Frag} {T : String → Option Addr} {F : Hp} : ∀ {ss : List Sc} {vs : List V}, ScVs ss vs → FzL K T F (ss.map D.leaf) vs
  | [], _, h => by cases h; exact .nil
  | s :: ss, _, h => by cases h with | cons a b => exact .cons (.leaf a) (ScVs.fz b)
theorem LkL.append {K : PySem.W.Frag} {T : String → Option Addr} {F H : Hp} : ∀ {ds es : List D} {vs ws : List V}, LkL K T F H ds vs → LkL K T F H es ws → LkL K T F H (ds ++ es) (vs ++ ws)
  | [], _, _, _, h, h2 => by cases h; exact h2
  | d :: ds, _, _, _, h, h2 => by cases h with | cons a b => exact .cons a (LkL.append b h2)
def mCallBD (np : Nat) (fn : Fn) (ss : List Sc) (args : M (List D)) : M D := M.bind args fun ds => M.bind (M.ck (decide ((ds ++ ss.map D.leaf).length = np))) fun _ => runB fn (D.frzL (ds ++ ss.map D.leaf))
def mCallFD (np : Nat) (fn : Fn) (ss : List Sc) (args : M (List D)) : M D := M.bind args fun ds => M.bind (M.ck (decide ((ds ++ ss.map D.leaf).length = np))) fun _ => runF fn (D.frzL (ds ++ ss.map D.leaf))
theorem qe_callLD {e : Expr} {es : List Expr} {x : Str} {pp : Pos} {k : Nat} {f : Addr} {fd : FuncData} {ps : List Str} {np : Nat} {fn : Fn} {a : M (List D)} {ss : List Sc} {dvs : List V}
    (F : FnOk X.prog X.w X.K X.mg X.base (L2.CX X.prog X.w) k f fd ps (spV X.K T np [] fn)) (hr : Room k X.A) (hg : Gl X x) (hm : X.mg x = some (.ref f)) (hk : PySem.W.keepIn X.K (.ref f) = true) (hb : ∃ ds, Vals dvs ds ∧ Binds X.K fd ps ds) (hs : ScVs ss dvs) (tk : Takes X W)
    (ha : QAB T io X W p (e :: es) a) (hdb : (x == ("__debug__" : Str)) = false := by decide) (he : starEach (e :: es) X.env = (false, eval e X.env) :: starEach es X.env := by rfl) (hpl : (backTo pos (starEach es X.env)).any (·.1) = false := by rfl) :
    QE T io X W p (.Call (.Name x pp) (e :: es) [] pos) (mCallBD np fn ss a) := fun G g => by
  obtain ⟨dvals, hd, hb⟩ := hb
  exact PE.imp (pe_callSD F hr hg hm hk hb hd (fun σ => passAt tk σ) (ha G g) hdb he hpl) fun σ H Q ⟨F0, r, t, tv, h1, h2⟩ => by
    refine ⟨F0, r, t, tv, h1, (sat_bind h2).mono (fun ds r1 q vs F1 H1 s1 z1 h3 lk => ?_) fun _ _ q => q⟩
    obtain ⟨hn, q⟩ := sat_ck (sat_bind q)
    exact callB_imp (lk.append hs.fz.lk) (of_decide_eq_true hn) h3 (q.mono (fun d r' q v H' z3 h5 => q v F1 H' s1 (fun z => (z1 z).trans z3) h5) fun _ _ q => q.trans s1)
theorem frzL_append (a b : List D) : D.frzL (a ++ b) = D.frzL a ++ D.frzL b := by simp [frzL_map]
theorem frzL_leafs (ss : List Sc) : D.frzL (ss.map D.leaf) = ss.map D.leaf := by
  rw [frzL_map, List.map_map]
  exact List.map_congr_left fun s _ => frz_leaf s
theorem qe_callFD {e : Expr} {es : List Expr} {x : Str} {pp : Pos} {k : Nat} {f : Addr} {fd : FuncData} {ps : List Str} {np : Nat} {fn : Fn} {a : M (List D)} {ss : List Sc} {dvs : List V}
    (F : FnOk X.prog X.w X.K X.mg X.base (L2.CX X.prog X.w) k f fd ps (spV X.K T np [] fn)) (hr : Room k X.A) (hg : Gl X x) (hm : X.mg x = some (.ref f)) (hk : PySem.W.keepIn X.K (.ref f) = true) (hb : ∃ ds, Vals dvs ds ∧ Binds X.K fd ps ds) (hs : ScVs ss dvs) (tk : Takes X W)
    (ha : QA T io X W p (e :: es) a) (hdb : (x == ("__debug__" : Str)) = false := by decide) (he : starEach (e :: es) X.env = (false, eval e X.env) :: starEach es X.env := by rfl) (hpl : (backTo pos (starEach es X.env)).any (·.1) = false := by rfl) :
    QE T io X W p (.Call (.Name x pp) (e :: es) [] pos) (mCallFD np fn ss a) := fun G g => by
  obtain ⟨dvals, hd, hb⟩ := hb
  exact PE.imp (pe_callSD F hr hg hm hk hb hd (fun σ => passAt tk σ) (ha G g) hdb he hpl) fun σ H Q ⟨F0, r, t, tv, h1, h2⟩ => by
    refine ⟨F0, r, t, tv, h1, (sat_bind h2).mono (fun ds r1 q vs F1 H1 s1 z1 hl h3 => ?_) fun _ _ q => q⟩
    obtain ⟨hn, q⟩ := sat_ck (sat_bind q)
    obtain ⟨F2, s2, h4, hf⟩ := Rl.freezeN hl h3
    rw [frzL_append, frzL_leafs] at q
    refine callF_imp (hf.append hs.fz) ?_ h4 (q.mono (fun d r' q v F' H' s3 z3 h5 => q v F' H' ((s1.trans s2).trans s3) (fun z => (z1 z).trans z3) h5) fun _ _ q => q.trans (s1.trans s2))
    have := of_decide_eq_true hn
    rw [List.length_append] at this ⊢
    rw [frzL_length]
    exact this
end
@[simp] theorem mCallBD_app (np : Nat) (fn : Fn) (ss : List Sc) (a : M (List D)) (r : VS) : mCallBD np fn ss a r = (a r).andThen fun ds r => (M.ck (decide ((ds ++ ss.map D.leaf).length = np)) r).andThen fun _ r => runB fn (D.frzL (ds ++ ss.map D.leaf)) r := by
  simp only [mCallBD, bind_app]; congr 1; funext f r; rw [bind_app]
@[simp] theorem mCallFD_app (np : Nat) (fn : Fn) (ss : List Sc) (a : M (List D)) (r : VS) : mCallFD np fn ss a r = (a r).andThen fun ds r => (M.ck (decide ((ds ++ ss.map D.leaf).length = np)) r).andThen fun _ r => runF fn (D.frzL (ds ++ ss.map D.leaf)) r := by
  simp only [mCallFD, bind_app]; congr 1; funext f r; rw [bind_app]
@[simp] theorem mAug_app (i : Nat) (f : Int → Int → Int) (e : M D) (r : VS) : mAug i f e r = (slotI i r).andThen fun a r => (e r).andThen fun d r => (M.opt (int? d) r).andThen fun b r => mTo (gPut i) (.int (f a b)) r := by
  simp only [mAug, bind_app]; congr 1; funext x r; rw [bind_app]; congr 1; funext x r; rw [bind_app]
@[simp] theorem slotI_app (i : Nat) (r : VS) : slotI i r = match slot? i r with | some (.leaf (.int a)) => .ok a r | _ => .no := nr rfl
@[simp] theorem mTo_app (g : Gt) (d : D) (r : VS) : mTo g d r = match g d r with | some r' => .ok .nx r' | none => .no := nr rfl
/-! ### steps, one statement at a time -/
theorem seq_nx {a b : M Fl} {r r1 : VS} {x : R Fl} (h : a r = .ok .nx r1) (h2 : b r1 = x) : mSeq a b r = x := by rw [mSeq_app, h, andThen_ok, h2]
theorem seq_rt {a b : M Fl} {r r1 : VS} {d : D} (h : a r = .ok (.rt d) r1) : mSeq a b r = .ok (.rt d) r1 := by rw [mSeq_app, h, andThen_ok]
theorem seq_ex {a b : M Fl} {r r1 : VS} {c : String} (h : a r = .ex c r1) : mSeq a b r = .ex c r1 := by rw [mSeq_app, h, andThen_ex]
theorem if_tt {c : M Bool} {a b : M Fl} {r r1 : VS} {x : R Fl} (h : c r = .ok true r1) (h2 : a r1 = x) : mIfS c a b r = x := by rw [mIfS_app, h, andThen_ok, if_pos rfl, h2]
theorem if_ff {c : M Bool} {a b : M Fl} {r r1 : VS} {x : R Fl} (h : c r = .ok false r1) (h2 : b r1 = x) : mIfS c a b r = x := by rw [mIfS_app, h, andThen_ok, if_neg Bool.false_ne_true, h2]
/-- an if that goes on -/
theorem seq_ff {c : M Bool} {a b : M Fl} {r r1 : VS} {x : R Fl} (h : c r = .ok false r1) (h2 : b r1 = x) : mSeq (mIfS c a (M.ret .nx)) b r = x := seq_nx (if_ff h rfl) h2
theorem fn_rt {n : Nat} {b : M Fl} {as : List D} {d : D} {r : VS} (h : b (as.map some ++ List.replicate (n - as.length) none) = .ok (.rt d) r) : fnM n [] b as = .ok d [] := by
  unfold fnM
  rw [h]
  rfl
theorem fn_nx {n : Nat} {b : M Fl} {as : List D} {r : VS} (h : b (as.map some ++ List.replicate (n - as.length) none) = .ok .nx r) : fnM n [] b as = .ok .non [] := by
  unfold fnM
  rw [h]
  rfl
theorem fn_ex {n : Nat} {b : M Fl} {as : List D} {c : String} {r : VS} (h : b (as.map some ++ List.replicate (n - as.length) none) = .ex c r) : fnM n [] b as = .ex c [] := by
  unfold fnM
  rw [h]
  rfl
theorem for_ok {src : M (List D)} {g : Gt} {b : M Fl} {r r1 : VS} {ds : List D} {x : R Fl} (h : src r = .ok ds r1) (h2 : mForL g b ds r1 = x) : mFor src g b r = x := by rw [mFor_app, h, andThen_ok, h2]
theorem asg_ok {a : M D} {g : Gt} {d : D} {r r1 r2 : VS} (h : a r = .ok d r1) (h2 : g d r1 = some r2) : mAsg a g r = .ok .nx r2 := by rw [mAsg_app, h, andThen_ok, h2]
theorem ret_ok {a : M D} {d : D} {r r1 : VS} (h : a r = .ok d r1) : mRet a r = .ok (.rt d) r1 := by rw [mRet_app, h, andThen_ok]
theorem drop_ok {a : M D} {d : D} {r r1 : VS} (h : a r = .ok d r1) : mDrop a r = .ok .nx r1 := by rw [mDrop_app, h, andThen_ok]
theorem bnd_nat {n : Nat} (h : n ≤ 1000000) : bnd (n : Int) = true := by
  unfold bnd
  have : (n : Int) ≤ 1000000 := by omega
  simp only [Bool.and_eq_true, decide_eq_true_eq]
  omega
theorem ck_of {b : Bool} {r : VS} (h : b = true) : M.ck b r = .ok () r := by subst h; rfl
theorem iRg1_nat {a : M D} {r r1 : VS} {n : Nat} (h : a r = .ok (.int n) r1) (hn : n ≤ 1000000) : iRg1 a r = .ok (rangeL 0 n) r1 := by
  rw [iRg1_app, h, andThen_ok, int?_int, opt_some, andThen_ok, ck_of (bnd_nat hn), andThen_ok, Int.toNat_natCast]
/-! ### lists of numbers -/
@[simp] theorem fListOf_ints (o : Bool) (l : List Int) : fListOf [.node o .lst (l.map D.int)] = some (.lst true (l.map D.int)) := by
  show (if (l.map D.int).all D.shr = true then _ else _) = _
  rw [if_pos (shr_ints l)]
theorem fAdd_ints (o o' : Bool) (a b : List Int) (h : a.length + b.length ≤ sizeLine) : fAdd (.node o .lst (a.map D.int)) (.node o' .lst (b.map D.int)) = some (.lst true ((a ++ b).map D.int)) := by
  show (if _ then _ else _) = _
  rw [if_pos ⟨by simpa using h, shr_ints a, shr_ints b⟩, List.map_append]
def cutI (l : List Int) (lo hi : Option Int) : List Int := (l.drop (HT.sIx l.length 0 lo)).take (HT.sIx l.length l.length hi - HT.sIx l.length 0 lo)
theorem fSl_ints (o : Bool) (l : List Int) (lo hi : Option Int) : fSl (.node o .lst (l.map D.int)) lo hi = some (.lst true ((cutI l lo hi).map D.int)) := by
  have e : cutD (l.map D.int) lo hi = (cutI l lo hi).map D.int := by
    unfold cutD cutI
    rw [List.length_map, List.map_take, List.map_drop]
  show (if (cutD (l.map D.int) lo hi).all D.shr = true then some (D.lst true (cutD (l.map D.int) lo hi)) else none) = _
  rw [e, if_pos (shr_ints _)]
theorem cut_upto (l : List Int) (k : Nat) : cutI l none (some (k : Int)) = l.take k := by
  unfold cutI
  rw [HT.sIx_none, HT.sIx_nat, List.drop_zero, Nat.sub_zero]
  by_cases h : k ≤ l.length
  · rw [Nat.min_eq_left h]
  · rw [Nat.min_eq_right (by omega), List.take_of_length_le (Nat.le_refl _), List.take_of_length_le (by omega)]
theorem sIx_back (n d k : Nat) (hk : 0 < k) : HT.sIx n d (some (-(k : Int))) = n - k := by
  show (if (-(k : Int)) < 0 then (-(k : Int) + (n : Int)).toNat else min (-(k : Int)).toNat n) = n - k
  rw [if_pos (by omega)]
  omega
theorem cut_less (l : List Int) (k : Nat) (hk : 0 < k) : cutI l none (some (-(k : Int))) = l.take (l.length - k) := by
  unfold cutI
  rw [HT.sIx_none, sIx_back _ _ _ hk, List.drop_zero, Nat.sub_zero]
theorem cut_last (l : List Int) (k : Nat) (hk : 0 < k) : cutI l (some (-(k : Int))) none = l.drop (l.length - k) := by
  unfold cutI
  rw [sIx_back _ _ _ hk, HT.sIx_none]
  exact List.take_of_length_le (by rw [List.length_drop]; exact Nat.le_refl _)
theorem cut_from (l : List Int) (k : Nat) : cutI l (some (k : Int)) none = l.drop k := by
  unfold cutI
  rw [HT.sIx_nat, HT.sIx_none, List.take_of_length_le (by rw [List.length_drop]; exact Nat.le_refl _)]
  by_cases h : k ≤ l.length
  · rw [Nat.min_eq_left h]
  · rw [Nat.min_eq_right (by omega), List.drop_of_length_le (Nat.le_refl _), List.drop_of_length_le (by omega)]
@[simp] theorem mSl_app (a : M D) (lo hi : M (Option Int)) (r : VS) : mSl a lo hi r = (a r).andThen fun d r => (lo r).andThen fun i r => (hi r).andThen fun j r => M.opt (fSl d i j) r := by
  simp only [mSl, bind_app]; congr 1; funext x r; rw [bind_app]; congr 1; funext x r; rw [bind_app]
@[simp] theorem mPart_app (a : M D) (r : VS) : mPart a r = (a r).andThen fun d r => (M.opt (int? d) r).andThen fun i r => .ok (some i) r := by
  simp only [mPart, bind_app]; congr 1; funext x r; rw [bind_app]; rfl
@[simp] theorem fEq_bl (a b : Bool) : fEq (.bl a) (.bl b) = some (.bl (a == b)) := by
  unfold fEq eqPy
  simp [D.py, SeqAt.shaped, PyData.canLay0, PyData.depth, PyData.eqv]
@[simp] theorem fNe_bl (a b : Bool) : fNe (.bl a) (.bl b) = some (.bl (!(a == b))) := by
  unfold fNe eqPy
  simp [D.py, SeqAt.shaped, PyData.canLay0, PyData.depth, PyData.eqv]
theorem iRg2_nat {a c : M D} {r r1 r2 : VS} {m n : Nat} (h : a r = .ok (.int m) r1) (h2 : c r1 = .ok (.int n) r2) (hm : m ≤ 1000000) (hn : n ≤ 1000000) : iRg2 a c r = .ok (rangeL m (n - m)) r2 := by
  rw [iRg2_app, h, andThen_ok, h2, andThen_ok, int?_int, opt_some, andThen_ok, int?_int, opt_some, andThen_ok, ck_of (by rw [bnd_nat hm, bnd_nat hn]; rfl), andThen_ok]
  congr 2
  omega
theorem mSetIx_app (i : Nat) (a k : M D) (r : VS) : mSetIx i a k r = (a r).andThen fun d r => (mIsL i r).andThen fun _ r => (k r).andThen fun kd r => (M.opt (int? kd) r).andThen fun j r => setIxR i d j r := by
  simp only [mSetIx, bind_app]; congr 1; funext x r; rw [bind_app]; congr 1; funext x r; rw [bind_app]; congr 1; funext x r; rw [bind_app]
/-- the statements answer d -/
def Ret (b : M Fl) (r : VS) (d : D) : Prop := ∃ r', b r = .ok (.rt d) r'
theorem Ret.nx {a b : M Fl} {r : VS} (r1 : VS) {d : D} (h : a r = .ok .nx r1) (h2 : Ret b r1 d) : Ret (mSeq a b) r d := h2.elim fun r' e => ⟨r', seq_nx h e⟩
theorem Ret.left {a b : M Fl} {r : VS} {d : D} (h : Ret a r d) : Ret (mSeq a b) r d := h.elim fun r' e => ⟨r', seq_rt e⟩
theorem Ret.ff {c : M Bool} {a b : M Fl} {r : VS} (r1 : VS) {d : D} (h : c r = .ok false r1) (h2 : Ret b r1 d) : Ret (mSeq (mIfS c a (M.ret .nx)) b) r d := h2.elim fun r' e => ⟨r', seq_ff h e⟩
theorem Ret.tt {c : M Bool} {a a' : M Fl} {r : VS} (r1 : VS) {d : D} (h : c r = .ok true r1) (h2 : Ret a r1 d) : Ret (mIfS c a a') r d := h2.elim fun r' e => ⟨r', if_tt h e⟩
theorem Ret.el {c : M Bool} {a a' : M Fl} {r : VS} (r1 : VS) {d : D} (h : c r = .ok false r1) (h2 : Ret a' r1 d) : Ret (mIfS c a a') r d := h2.elim fun r' e => ⟨r', if_ff h e⟩
theorem Ret.ret {a : M D} {r r1 : VS} {d : D} (h : a r = .ok d r1) : Ret (mRet a) r d := ⟨r1, ret_ok h⟩
theorem fn_ret {n : Nat} {b : M Fl} {as : List D} {d : D} (h : Ret b (as.map some ++ List.replicate (n - as.length) none) d) : fnM n [] b as = .ok d [] := h.elim fun r e => fn_rt e
end VL

/-! VL16: texts, in, max and min of a list, sorted. -/
namespace VL
open PySem PySem.Spec L2
section
variable {T : String → Option Addr} {io : Io} {X : Cx} {W : WX} {p p1 p2 : Bool} {pos : Pos}
def str? : D → Option Str
  | .leaf (.str x) => some x
  | _ => none
theorem str?_eq {d : D} {x : Str} (h : str? d = some x) : d = .str x := by
  cases d with
  | leaf s => cases s <;> simp_all [str?]
  | node o k ds => simp [str?] at h
theorem lk_str {K : PySem.W.Frag} {F H : Hp} {d : D} {v : V} {x : Str} (h : Lk K T F H d v) (e : str? d = some x) : v = .str x := by
  rw [str?_eq e] at h
  exact lk_leaf h
def strs? : List D → Option (List Str)
  | [] => some []
  | d :: ds => (str? d).bind fun x => (strs? ds).map (x :: ·)
theorem strs?_lk {K : PySem.W.Frag} {F H : Hp} : ∀ {ds : List D} {ys : List Str} {vs : List V}, strs? ds = some ys → LkL K T F H ds vs → vs = ys.map V.str
  | [], ys, vs, e, h => by cases h; cases e; rfl
  | d :: ds, ys, vs, e, h => by
    simp only [strs?] at e
    cases e1 : str? d with
    | none => rw [e1] at e; cases e
    | some x =>
      rw [e1] at e
      cases e2 : strs? ds with
      | none => rw [e2] at e; cases e
      | some xs =>
        rw [e2] at e; cases e
        cases h with
        | cons h1 h2 => rw [lk_str h1 e1, strs?_lk e2 h2]; rfl
def joinD (a : Str) (d : D) : Option D := (seq? d).bind fun ds => (strs? ds).bind fun ys => if (ys.map (·.length)).sum + ys.length * a.length ≤ 16777216 then some (.str (Txt.join a ys)) else none
/-- a.join(l) -/
def mJoin (o e : M D) : M D := M.bind o fun d => M.bind (M.opt (str? d)) fun a => M.bind e fun l => M.opt (joinD a l)
theorem qe_join {o e : Expr} {apos : Pos} {mo me : M D} (ho : QB T io X W p o mo) (he : QB T io X W true e me) (hs : starEach [e] X.env = [(false, eval e X.env)] := by rfl) (hbase : attributeBase o "join" X.env (eval o X.env) = eval o X.env := by rfl) (hline : (apos.endLine == pos.line) = true := by rfl) :
    QE T io X W p (.Call (.Attribute o "join" apos) [e] [] pos) (mJoin mo me) := fun G g => PE.imp (pe_join (ho G g) (he G g) hs hbase hline) fun σ H Q ⟨F, r, t, tv, h1, h2⟩ => by
  refine ⟨F, r, t, tv, h1, (sat_bind h2).mono (fun d r1 q v F1 H1 s1 z1 h3 lk => ?_) fun _ _ q => q⟩
  obtain ⟨a, ea, q⟩ := sat_opt (sat_bind q)
  have ev := lk_str lk ea
  refine ⟨⟨a, ev⟩, F1, r1, t, tv, h3, (sat_bind q).mono (fun l r2 q w F2 H2 s2 z2 h4 lk2 => ?_) fun _ _ q => q.trans s1⟩
  obtain ⟨d', e1, q⟩ := sat_opt q
  unfold joinD at e1
  cases e2 : seq? l with
  | none => rw [e2] at e1; cases e1
  | some ds =>
    rw [e2] at e1
    cases e3 : strs? ds with
    | none => simp only [Option.bind_some] at e1; rw [e3] at e1; cases e1
    | some ys =>
      simp only [Option.bind_some] at e1
      rw [e3] at e1
      simp only [Option.bind_some] at e1
      split at e1
      · rename_i hz
        cases e1
        have fin : ∀ c, w = .ref c → (SqL X.K H2 c (ys.map V.str) ∨ SqT X.K H2 c (ys.map V.str)) → ∃ b p, ∃ zs : List Str, v = .str b ∧ [w] = [.ref p] ∧ (SqL X.K H2 p (zs.map V.str) ∨ SqT X.K H2 p (zs.map V.str)) ∧ (zs.map (·.length)).sum + zs.length * b.length ≤ 16777216 ∧ Q (.str (Txt.join b zs)) H2 := fun c ec hc =>
          ⟨a, c, ys, ev, by rw [ec], hc, hz, q _ F2 H2 (s1.trans s2) (fun z => (z1 z).trans (z2 rfl)) (h4.push (.leaf rfl))⟩
        unfold seq? at e2
        split at e2
        · cases e2
          obtain ⟨c, vs, rfl, hn, hl⟩ := lk2.node h4.sub
          have := strs?_lk e3 hl
          subst this
          exact fin c rfl (.inl hn.2)
        · cases e2
          obtain ⟨c, vs, rfl, hn, hl⟩ := lk2.node h4.sub
          have := strs?_lk e3 hl
          subst this
          exact fin c rfl (.inr hn.2)
        · cases e2
      · cases e1
/-! ### in -/
def inD (d e : D) : Option Bool := match d, e with
  | .leaf (.str x), .leaf (.str z) => (match x.cps.toList with | [c] => some (decide (c ∈ z.cps.toList)) | _ => none)
  | d, .node _ .lst ds => (match d.py, D.pyL ds with
    | some q, some qs => if SeqAt.shaped q = true ∧ SeqAt.shaped (.list qs) = true then some (qs.any fun z => PyData.eqv z q) else none
    | _, _ => none)
  | _, _ => none
def fIn (d e : D) : Option D := (inD d e).map fun b => .bl b
def fNotIn (d e : D) : Option D := (inD d e).map fun b => .bl (!b)
def rSignIn (f : Bool → Bool) : R2 := fun x y H Q => ∃ (c : Nat) (z : Str), x = .str ⟨#[c]⟩ ∧ y = .str z ∧ Q (.bl (f (decide (c ∈ z.cps.toList)))) H
theorem op_In {X : Cx} (hu : X.A.units + 65 < cLine) : OpR X (compareOp .In) (fun x y H Q => rSignIn id x y H Q ∨ rInD X.K x y H Q) := OpR.or (r := rSignIn id) op_in_sign (op_inD hu)
theorem op_NotIn {X : Cx} (hu : X.A.units + 65 < cLine) : OpR X (compareOp .NotIn) (fun x y H Q => rSignIn (!·) x y H Q ∨ rNotInD X.K x y H Q) := OpR.or (r := rSignIn (!·)) op_notIn_sign (op_notInD hu)
theorem inD_some {K : PySem.W.Frag} {F H : Hp} {d e : D} {x y : V} {b : Bool} (h : inD d e = some b) (s : Same F H) (l1 : Lk K T F H d x) (l2 : Lk K T F H e y) :
    (∃ (c : Nat) (z : Str), x = .str ⟨#[c]⟩ ∧ y = .str z ∧ b = decide (c ∈ z.cps.toList)) ∨ ∃ q qs, Dp K H x q ∧ Dp K H y (.list qs) ∧ SeqAt.shaped q = true ∧ SeqAt.shaped (.list qs) = true ∧ b = qs.any fun z => PyData.eqv z q := by
  unfold inD at h
  split at h
  · rename_i x' z'
    split at h
    · rename_i c hc
      cases h
      refine .inl ⟨c, z', ?_, lk_leaf l2, rfl⟩
      rw [lk_leaf l1]
      obtain ⟨arr⟩ := x'
      obtain ⟨li⟩ := arr
      simp at hc
      rw [hc]
    · cases h
  · rename_i d' o ds _
    split at h
    · rename_i q qs e1 e2
      split at h
      · rename_i hs
        cases h
        refine .inr ⟨q, qs, py_dp l1 s e1, ?_, hs.1, hs.2, rfl⟩
        exact py_dp l2 s (by simp [D.py, e2])
      · cases h
    · cases h
  · cases h
theorem In_ok {K : PySem.W.Frag} : Op2 K T fIn (fun x y H Q => rSignIn id x y H Q ∨ rInD K x y H Q) := by
  intro F H d e x y d' Q hf s l1 l2 q
  unfold fIn at hf
  cases h : inD d e with
  | none => rw [h] at hf; cases hf
  | some b =>
    rw [h] at hf; cases hf
    rcases inD_some h s l1 l2 with ⟨c, z, e1, e2, e3⟩ | ⟨pq, qs, e1, e2, e3, e4, e5⟩
    · subst e3; exact .inl ⟨c, z, e1, e2, q _ _ (.sh (.leaf rfl))⟩
    · subst e5; exact .inr ⟨pq, qs, e1, e2, e3, e4, q _ _ (.sh (.leaf rfl))⟩
theorem NotIn_ok {K : PySem.W.Frag} : Op2 K T fNotIn (fun x y H Q => rSignIn (!·) x y H Q ∨ rNotInD K x y H Q) := by
  intro F H d e x y d' Q hf s l1 l2 q
  unfold fNotIn at hf
  cases h : inD d e with
  | none => rw [h] at hf; cases hf
  | some b =>
    rw [h] at hf; cases hf
    rcases inD_some h s l1 l2 with ⟨c, z, e1, e2, e3⟩ | ⟨pq, qs, e1, e2, e3, e4, e5⟩
    · subst e3; exact .inl ⟨c, z, e1, e2, q _ _ (.sh (.leaf rfl))⟩
    · subst e5; exact .inr ⟨pq, qs, e1, e2, e3, e4, q _ _ (.sh (.leaf rfl))⟩
/-! ### max(l), min(l), sorted(l) -/
def ints? : List D → Option (List Int)
  | [] => some []
  | .leaf (.int i) :: ds => (ints? ds).map (i :: ·)
  | _ => none
theorem ints?_lk {K : PySem.W.Frag} {F H : Hp} : ∀ {ds : List D} {ns : List Int} {vs : List V}, ints? ds = some ns → LkL K T F H ds vs → vs = ns.map V.int
  | [], ns, vs, e, h => by cases h; cases e; rfl
  | .leaf (.int b) :: ds, ns, vs, e, h => by
    simp only [ints?] at e
    cases e1 : ints? ds with
    | none => rw [e1] at e; cases e
    | some ns' =>
      rw [e1] at e; cases e
      cases h with
      | cons h1 h2 => rw [lk_leaf h1, ints?_lk e1 h2]; rfl
  | .leaf .non :: ds, ns, vs, e, h => by simp [ints?] at e
  | .leaf (.bl _) :: ds, ns, vs, e, h => by simp [ints?] at e
  | .leaf (.str _) :: ds, ns, vs, e, h => by simp [ints?] at e
  | .node _ _ _ :: ds, ns, vs, e, h => by simp [ints?] at e
/-- the greatest of n and the items -/
def maxI : Int → List Int → Int
  | n, [] => n
  | n, m :: l => maxI (if n < m then m else n) l
def minI : Int → List Int → Int
  | n, [] => n
  | n, m :: l => minI (if m < n then m else n) l
theorem maxI_ge : ∀ (n : Int) (l : List Int), n ≤ maxI n l ∧ (∀ y ∈ l, y ≤ maxI n l) ∧ (maxI n l = n ∨ maxI n l ∈ l)
  | n, [] => ⟨Int.le_refl _, by simp, .inl rfl⟩
  | n, m :: l => by
    obtain ⟨h1, h2, h3⟩ := maxI_ge (if n < m then m else n) l
    show n ≤ maxI _ l ∧ _
    have e : maxI n (m :: l) = maxI (if n < m then m else n) l := rfl
    rw [e]
    by_cases c : n < m
    · rw [if_pos c] at h1 h2 h3 ⊢
      exact ⟨by omega, fun y hy => (List.mem_cons.mp hy).elim (fun z => by rw [z]; exact h1) (h2 y), .inr (h3.elim (fun z => by rw [z]; exact List.mem_cons_self) fun z => List.mem_cons_of_mem _ z)⟩
    · rw [if_neg c] at h1 h2 h3 ⊢
      exact ⟨h1, fun y hy => (List.mem_cons.mp hy).elim (fun z => by rw [z]; omega) (h2 y), h3.elim .inl fun z => .inr (List.mem_cons_of_mem _ z)⟩
theorem minI_le : ∀ (n : Int) (l : List Int), minI n l ≤ n ∧ (∀ y ∈ l, minI n l ≤ y) ∧ (minI n l = n ∨ minI n l ∈ l)
  | n, [] => ⟨Int.le_refl _, by simp, .inl rfl⟩
  | n, m :: l => by
    obtain ⟨h1, h2, h3⟩ := minI_le (if m < n then m else n) l
    have e : minI n (m :: l) = minI (if m < n then m else n) l := rfl
    rw [e]
    by_cases c : m < n
    · rw [if_pos c] at h1 h2 h3 ⊢
      exact ⟨by omega, fun y hy => (List.mem_cons.mp hy).elim (fun z => by rw [z]; exact h1) (h2 y), .inr (h3.elim (fun z => by rw [z]; exact List.mem_cons_self) fun z => List.mem_cons_of_mem _ z)⟩
    · rw [if_neg c] at h1 h2 h3 ⊢
      exact ⟨h1, fun y hy => (List.mem_cons.mp hy).elim (fun z => by rw [z]; omega) (h2 y), h3.elim .inl fun z => .inr (List.mem_cons_of_mem _ z)⟩
def fMaxL : List D → Option D
  | [.node _ .lst ds] => (match ints? ds with | some (n :: l) => some (.int (maxI n l)) | _ => none)
  | _ => none
def fMinL : List D → Option D
  | [.node _ .lst ds] => (match ints? ds with | some (n :: l) => some (.int (minI n l)) | _ => none)
  | _ => none
theorem maxL_ok {K : PySem.W.Frag} : OpN K T fMaxL (rMax K) := by
  intro F H ds xs d' Q hf s l q
  unfold fMaxL at hf
  split at hf
  · split at hf
    · rename_i ds n li e
      cases hf
      obtain ⟨x, rfl, l1⟩ := lkl1 l
      obtain ⟨a, vs, rfl, hn, hl⟩ := l1.node s
      have := ints?_lk e hl
      subst this
      obtain ⟨h1, h2, h3⟩ := maxI_ge n li
      refine ⟨a, n :: li, rfl, hn.2, by simp, fun m hm hy => ?_⟩
      have e1 : m ≤ maxI n li := by
        rcases List.mem_cons.mp hm with rfl | z
        · exact h1
        · exact h2 m z
      have e2 : maxI n li ≤ m := hy _ (by
        rcases h3 with z | z
        · rw [z]; exact List.mem_cons_self
        · exact List.mem_cons_of_mem _ z)
      have e3 : m = maxI n li := by omega
      rw [e3]
      exact q _ _ (.sh (.leaf rfl))
    · cases hf
  · cases hf
theorem minL_ok {K : PySem.W.Frag} : OpN K T fMinL (rMin K) := by
  intro F H ds xs d' Q hf s l q
  unfold fMinL at hf
  split at hf
  · split at hf
    · rename_i ds n li e
      cases hf
      obtain ⟨x, rfl, l1⟩ := lkl1 l
      obtain ⟨a, vs, rfl, hn, hl⟩ := l1.node s
      have := ints?_lk e hl
      subst this
      obtain ⟨h1, h2, h3⟩ := minI_le n li
      refine ⟨a, n :: li, rfl, hn.2, by simp, fun m hm hy => ?_⟩
      have e1 : minI n li ≤ m := by
        rcases List.mem_cons.mp hm with rfl | z
        · exact h1
        · exact h2 m z
      have e2 : m ≤ minI n li := hy _ (by
        rcases h3 with z | z
        · rw [z]; exact List.mem_cons_self
        · exact List.mem_cons_of_mem _ z)
      have e3 : m = minI n li := by omega
      rw [e3]
      exact q _ _ (.sh (.leaf rfl))
    · cases hf
  · cases hf
/-! ### what is walked: a list, a tuple, a text -/
def items? : D → Option (List D)
  | .node _ .lst ds => some ds
  | .node _ .tup ds => some ds
  | .leaf (.str x) => some (x.cps.toList.map fun c => .str ⟨#[c]⟩)
  | _ => none
def iAny (a : M D) : M (List D) := M.bind a fun d => M.bind (M.opt (items? d)) fun ds => M.ret (D.frzL ds)
def iLTS (K : PySem.W.Frag) (tl : TE) : TI := fun σ H R => tl σ H fun x H1 => (∃ a, x = .ref a ∧ ((∃ xs, SqL K H1 a xs) ∧ R (Itl K a) H1 ∨ (∃ xs, SqT K H1 a xs) ∧ R (Itt K a) H1)) ∨ ∃ z, x = .str z ∧ R (Its z) H1
theorem pi_lts {tg l : Expr} {tl : TE} (hl : PE X l tl) : PI X tg l (iLTS X.K tl) := by
  refine ⟨fun pins s σ H R I h => ?_⟩
  refine thn (hl.run pins s σ H _ I h) fun v s1 ⟨x, H1, I1, r1, q1⟩ => ?_
  rcases q1 with ⟨a, e, ⟨⟨xs, hq⟩, q⟩ | ⟨⟨xs, hq⟩, q⟩⟩ | ⟨z, e, q⟩
  · subst e
    cases r1
    obtain ⟨its, rv, p, hz⟩ := I1.list hq
    refine wpAny_pyIter_list p.isList ?_
    refine ⟨s1.heap.objs.size, [s1.heap.objs.size], _, _, H1, rfl, I1.kept (t' := s1.toks) fun b o e => Heap.get?_push_of_some _ e, turn_list a _, ⟨_, Heap.get?_push_size _ rfl, rfl, rfl⟩, fun b hb => ?_, q⟩
    have e : b = s1.heap.objs.size := by simpa using hb
    subst e
    exact I1.fpOk (Nat.le_refl _) (I1.hok.fresh (Nat.le_refl _))
  · subst e
    cases r1
    obtain ⟨its, rv, p, hz⟩ := I1.tuple hq
    refine wpAny_pyIter_tuple (show s1.heap.IsTuple a its.toArray from p) ?_
    refine ⟨s1.heap.objs.size, [s1.heap.objs.size], _, _, H1, rfl, I1.kept (t' := s1.toks) fun b o e => Heap.get?_push_of_some _ e, turn_tuple a _, ⟨_, Heap.get?_push_size _ rfl, rfl, rfl⟩, fun b hb => ?_, q⟩
    have e : b = s1.heap.objs.size := by simpa using hb
    subst e
    exact I1.fpOk (Nat.le_refl _) (I1.hok.fresh (Nat.le_refl _))
  · subst e
    obtain ⟨t, rfl⟩ := r1
    cases ha : z.cps.all (· < 128)
    · exact wpAny_pyIter_wide ha (pi_one (tk := s1.toks) I1 _ (turn_str _ z t "str_iterator" (.inr rfl)) ⟨_, Heap.get?_push_size _ rfl, rfl, rfl⟩ q)
    · exact wpAny_pyIter_ascii ha (pi_one (tk := s1.toks) I1 _ (turn_str _ z t "str_ascii_iterator" (.inl rfl)) ⟨_, Heap.get?_push_size _ rfl, rfl, rfl⟩ q)
theorem walks_str {K : PySem.W.Frag} {F : Hp} (z : Str) : Walks K T (Its z) F (z.cps.toList.map fun c => D.str ⟨#[c]⟩) (fun _ => True) where
  stop := fun H _ => by show z.cps.size ≤ _; simp
  go := fun i H _ h => by show i < z.cps.size; simpa using h
  yld := fun i H x H' d _ e y => by
    obtain ⟨rfl, c, ec, rfl⟩ := y
    rw [List.getElem?_map, Array.getElem?_toList, ec] at e
    cases e
    exact ⟨.leaf rfl, rfl⟩
theorem qi_any {tg e : Expr} {a : M D} (h : QE T io X W p e a) : QI T io X W p tg e (iAny a) := fun G g => PI.imp (pi_lts (h G g)) fun σ H R ⟨F, r, t, tv, h1, h2⟩ => by
  refine ⟨F, r, t, tv, h1, (sat_bind h2).mono (fun d r1 q v F1 H1 s1 z1 h3 => ?_) fun _ _ q => q⟩
  obtain ⟨ds, e, q⟩ := sat_opt (sat_bind q)
  unfold items? at e
  split at e
  · cases e
    obtain ⟨F2, s2, h4, fz⟩ := h3.freeze
    cases fz with
    | @node a k vs _ hn hl =>
      have hq : SqL X.K F2 a vs := hn.2
      exact .inl ⟨a, rfl, .inl ⟨⟨vs, h4.sub.seq hq⟩, q F2 H1 _ _ (s1.trans s2) z1 h4.drop (walks_list' hl) fun F' H' s3 s4 => s4.seq (s3.seq hq)⟩⟩
  · cases e
    obtain ⟨F2, s2, h4, fz⟩ := h3.freeze
    cases fz with
    | @node a k vs _ hn hl =>
      have hq : SqT X.K F2 a vs := hn.2
      exact .inl ⟨a, rfl, .inr ⟨⟨vs, SqT.mono h4.sub hq⟩, q F2 H1 _ _ (s1.trans s2) z1 h4.drop (walks_tup hl) fun F' H' s3 s4 => SqT.mono s4 (SqT.mono s3 hq)⟩⟩
  · rename_i z
    cases e
    have ev := lk_leaf h3.top
    have e2 : D.frzL (z.cps.toList.map fun c => D.str ⟨#[c]⟩) = z.cps.toList.map fun c => D.str ⟨#[c]⟩ := by
      rw [frzL_map, List.map_map]
      exact List.map_congr_left fun c _ => frz_leaf _
    refine .inr ⟨z, ev, q F1 H1 _ _ s1 z1 h3.drop ?_ fun _ _ _ _ => trivial⟩
    rw [e2]
    exact walks_str z
  · cases e
end
@[simp] theorem iAny_app (a : M D) (r : VS) : iAny a r = (a r).andThen fun d r => (M.opt (items? d) r).andThen fun ds r => .ok (D.frzL ds) r := by
  simp only [iAny, bind_app]; congr 1; funext x r; rw [bind_app]; rfl
@[simp] theorem items?_lst (o : Bool) (ds : List D) : items? (.node o .lst ds) = some ds := nr rfl
@[simp] theorem items?_tup (o : Bool) (ds : List D) : items? (.node o .tup ds) = some ds := nr rfl
@[simp] theorem mJoin_app (o e : M D) (r : VS) : mJoin o e r = (o r).andThen fun d r => (M.opt (str? d) r).andThen fun a r => (e r).andThen fun l r => M.opt (joinD a l) r := by
  simp only [mJoin, bind_app]; congr 1; funext x r; rw [bind_app]; congr 1; funext x r; rw [bind_app]
end VL

/-! VL17: sorted. -/
namespace VL
open PySem PySem.Spec L2
def leS (a b : Str) : Bool := decide (a.cps.toList ≤ b.cps.toList)
theorem leS_trans (a b c : Str) (h1 : leS a b = true) (h2 : leS b c = true) : leS a c = true := decide_eq_true (List.le_trans (of_decide_eq_true h1) (of_decide_eq_true h2))
theorem leS_total (a b : Str) : (leS a b || leS b a) = true := by
  rcases List.le_total a.cps.toList b.cps.toList with h | h
  · simp [leS, h]
  · simp [leS, h]
theorem leS_anti (a b : Str) (h1 : leS a b = true) (h2 : leS b a = true) : a = b := by
  have e := List.le_antisymm (of_decide_eq_true h1) (of_decide_eq_true h2)
  obtain ⟨⟨x⟩⟩ := a
  obtain ⟨⟨y⟩⟩ := b
  simp at e
  rw [e]
theorem rising_pair : ∀ (p : Str) (l : List Str), PyProof.Rows.risingS p l = true → (p :: l).Pairwise fun a b => leS a b = true
  | p, [], _ => by simp
  | p, x :: r, h => by
    have h' : (!ltCps x.cps.toList p.cps.toList && PyProof.Rows.risingS x r) = true := h
    obtain ⟨h1, h2⟩ := Bool.and_eq_true_iff.mp h'
    have ih := rising_pair x r h2
    have hp : leS p x = true := by
      rw [PyProof.Rows.ltCps_eq] at h1
      have h1 : ¬ x.cps.toList < p.cps.toList := by simpa using h1
      exact decide_eq_true h1
    refine List.pairwise_cons.mpr ⟨fun y hy => ?_, ih⟩
    rcases List.mem_cons.mp hy with rfl | hy
    · exact hp
    · exact leS_trans p x y hp (List.rel_of_pairwise_cons ih hy)
theorem sorted_pair : ∀ (l : List Str), PyProof.Rows.sortedS l = true → l.Pairwise fun a b => leS a b = true
  | [], _ => .nil
  | x :: r, h => rising_pair x r h
def sortS (l : List Str) : List Str := l.mergeSort leS
def sortI (l : List Int) : List Int := l.mergeSort fun a b => decide (a ≤ b)
theorem sortS_eq {l ys : List Str} (hp : ys.Perm l) (hs : PyProof.Rows.sortedS ys = true) : ys = sortS l :=
  List.Perm.eq_of_pairwise (le := fun a b => leS a b = true) (fun a b _ _ h1 h2 => leS_anti a b h1 h2) (sorted_pair ys hs) (List.pairwise_mergeSort leS_trans leS_total l) (hp.trans (List.mergeSort_perm l leS).symm)
theorem sortI_eq {l ys : List Int} (hp : ys.Perm l) (hs : ys.Pairwise (· ≤ ·)) : ys = sortI l := by
  refine List.Perm.eq_of_pairwise (le := fun a b => a ≤ b) (fun a b _ _ h1 h2 => Int.le_antisymm h1 h2) hs ?_ (hp.trans (List.mergeSort_perm l _).symm)
  have := List.pairwise_mergeSort (le := fun a b : Int => decide (a ≤ b)) (fun a b c h1 h2 => decide_eq_true (Int.le_trans (of_decide_eq_true h1) (of_decide_eq_true h2))) (fun a b => by rcases Int.le_total a b with h | h <;> simp [h]) l
  exact this.imp fun h => of_decide_eq_true h
def fSorted : List D → Option D
  | [.node _ .lst ds] => (match ints? ds, strs? ds with
    | some ns, _ => some (.lst true ((sortI ns).map D.int))
    | _, some ys => if ys.length < 64 then some (.lst true ((sortS ys).map D.str)) else none
    | _, _ => none)
  | _ => none
section
variable {T : String → Option Addr}
def rSortedU (K : PySem.W.Frag) : List V → Hp → VK → Prop := fun vs H Q => rSortedI K vs H Q ∨ rSortedS K vs H Q
theorem call_or {X : Cx} {f : Value} {r r' : List V → Hp → VK → Prop} (h : CallR X f r) (h' : CallR X f r') : CallR X f fun xs H Q => r xs H Q ∨ r' xs H Q := fun pins s σ H xs us Q I rv q => q.elim (h pins s σ H xs us Q I rv) (h' pins s σ H xs us Q I rv)
theorem cr_sortedU {X : Cx} : CallR X (.builtin "sorted") (rSortedU X.K) := call_or cr_sortedI cr_sortedS
theorem strs_fz {K : PySem.W.Frag} {F : Hp} : ∀ ys : List Str, FzL K T F (ys.map D.str) (ys.map V.str)
  | [] => .nil
  | y :: ys => .cons (.leaf rfl) (strs_fz ys)
theorem sorted_ok {K : PySem.W.Frag} : OpN K T fSorted (rSortedU K) := by
  intro F H ds xs d' Q hf s l q
  unfold fSorted at hf
  split at hf
  · split at hf
    · rename_i ns e
      cases hf
      obtain ⟨x, rfl, l1⟩ := lkl1 l
      obtain ⟨a, vs, rfl, hn, hl⟩ := l1.node s
      have := ints?_lk e hl
      subst this
      refine .inl ⟨a, ns, rfl, hn.2, fun ns' p hp hs hfree => ?_⟩
      rw [sortI_eq hp hs]
      exact q _ _ (.new (k := .lst) (fun _ _ z => nomatch z) trivial (ints_fz _) hfree)
    · rename_i ys e _
      split at hf
      · rename_i hz
        cases hf
        obtain ⟨x, rfl, l1⟩ := lkl1 l
        obtain ⟨a, vs, rfl, hn, hl⟩ := l1.node s
        have := strs?_lk e hl
        subst this
        refine .inr ⟨a, ys, rfl, hn.2, hz, fun ys' p hp hs hfree => ?_⟩
        rw [sortS_eq hp hs]
        exact q _ _ (.new (k := .lst) (fun _ _ z => nomatch z) trivial (strs_fz _) hfree)
      · cases hf
    · cases hf
  · cases hf
end
end VL

/-! VL18: methods of texts. -/
namespace VL
open PySem PySem.Spec L2
section
variable {T : String → Option Addr} {io : Io} {X : Cx} {W : WX} {p p1 p2 : Bool} {pos : Pos}
/-- a.index(b): the first place -/
def indexS (a : Str) (d : D) : Option D := (str? d).bind fun b => match Builtin.Str.occurrences a b 0 a.length 1 with
  | i :: _ => some (.int (i : Nat))
  | [] => none
def mM1 (f : Str → D → Option D) (o e : M D) : M D := M.bind o fun d => M.bind (M.opt (str? d)) fun a => M.bind e fun l => M.opt (f a l)
theorem qe_sindex {o e : Expr} {apos : Pos} {mo me : M D} (ho : QB T io X W p o mo) (he : QB T io X W true e me) (hs : starEach [e] X.env = [(false, eval e X.env)] := by rfl) (hbase : attributeBase o "index" X.env (eval o X.env) = eval o X.env := by rfl) (hline : (apos.endLine == pos.line) = true := by rfl) :
    QE T io X W p (.Call (.Attribute o "index" apos) [e] [] pos) (mM1 indexS mo me) := fun G g => PE.imp (pe_m1 PySem.F.slot_str_index PySem.F.type_str_index mt_sindex (ho G g) (he G g) hs hbase hline) fun σ H Q ⟨F, r, t, tv, h1, h2⟩ => by
  refine ⟨F, r, t, tv, h1, (sat_bind h2).mono (fun d r1 q v F1 H1 s1 z1 h3 lk => ?_) fun _ _ q => q⟩
  obtain ⟨a, ea, q⟩ := sat_opt (sat_bind q)
  have ev := lk_str lk ea
  refine ⟨⟨a, ev⟩, F1, r1, t, tv, h3, (sat_bind q).mono (fun l r2 q w F2 H2 s2 z2 h4 lk2 => ?_) fun _ _ q => q.trans s1⟩
  obtain ⟨d', e1, q⟩ := sat_opt q
  unfold indexS at e1
  cases e2 : str? l with
  | none => rw [e2] at e1; cases e1
  | some b =>
    rw [e2] at e1
    simp only [Option.bind_some] at e1
    split at e1
    · rename_i i rest eo
      cases e1
      exact ⟨a, b, i, rest, ev, by rw [lk_str lk2 e2], eo, q _ F2 H2 (s1.trans s2) (fun z => (z1 z).trans (z2 rfl)) (h4.push (.leaf rfl))⟩
    · cases e1
/-- str(i) -/
def fStrC : List D → Option D
  | [.leaf (.int i)] => if i.natAbs.log2 < 1920 then some (.str (Str.ofString (toString i))) else none
  | _ => none
theorem strC_ok {K : PySem.W.Frag} : OpN K T fStrC (fun xs H Q => ∃ i : Int, xs = [.int i] ∧ i.natAbs.log2 < 1920 ∧ Q (.str (toString i)) H) := by
  intro F H ds xs d' Q hf s l q
  unfold fStrC at hf
  split at hf
  · split at hf
    · rename_i hz
      cases hf
      obtain ⟨x, rfl, l1⟩ := lkl1 l
      cases lk_leaf l1
      exact ⟨_, rfl, hz, q _ _ (.sh (.leaf rfl))⟩
    · cases hf
  · cases hf
/-! ### x.extend(e), e a list just made -/
theorem Sel.rot {K : PySem.W.Frag} : ∀ {es : List D} {zs : List V} {ds : List D} {vs : List V}, es.length = zs.length → ds.length = vs.length → Sel K T (es ++ ds) (zs ++ vs) (ds ++ es) (vs ++ zs)
  | [], [], ds, vs, _, _ => by simpa using Sel.refl
  | [], _ :: _, _, _, h, _ => by simp at h
  | _ :: _, [], _, _, h, _ => by simp at h
  | e :: es, z :: zs, ds, vs, h, h2 => by
    have h' : es.length = zs.length := by simpa using h
    have a : Sel K T (e :: (es ++ ds)) (z :: (zs ++ vs)) ((es ++ ds) ++ [e]) ((zs ++ vs) ++ [z]) := Sel.last (by simp [h', h2])
    have b := Sel.rot (K := K) (es := es) (zs := zs) (ds := ds ++ [e]) (vs := vs ++ [z]) h' (by simp [h2])
    have c := Sel.trans (by simpa using a) (by simpa using b)
    simpa using c
def mExtend (i : Nat) (a : M D) : M D := fun r => if isL i r = true then M.bind a (fun d r' => match d, ownL? i r' with
  | .node true .lst es, some ds => if ds.length + es.length ≤ sizeLine then .ok .non (r'.set i (some (.lst true (ds ++ es)))) else .no
  | _, _ => .no) r else .no
theorem Rl.ownTop {K : PySem.W.Frag} {G : Gm} {F H : Hp} {r : VS} {t : List D} {σ : L2.St} {tv : List V} {es : List D} {v : V} (h : Rl K T G F r (.node true .lst es :: t) σ (v :: tv) H) : ∃ b zs, v = .ref b ∧ H b = some (.lst zs) ∧ es.length = zs.length ∧ Rl K T G F r (es ++ t) σ (zs ++ tv) H := by
  obtain ⟨⟨Ps, Pt, h1, h2, dj, hq⟩, b1, b2, b3, b4, b5⟩ := h
  cases h2 with
  | @cons _ _ _ _ _ A B o g2 dj2 un =>
    cases o with
    | @own a dx k vs ds _ P0 hn hl n1 n2 f1 f2 hp =>
      obtain ⟨_, C, e1, e2⟩ := hn
      refine ⟨a, vs, rfl, e1, hl.length, ⟨Ps, fun b => P0 b ∨ B b, h1, OwL.join hl g2 (fun b p q => dj2 b ((hp b).mpr (.inr p)) q) fun _ => Iff.rfl, fun b p q => ?_, fun b p => ?_⟩, b1, b2, b3, b4, b5⟩
      · rcases q with q | q
        · exact dj b p ((un b).mpr (.inl ((hp b).mpr (.inr q))))
        · exact dj b p ((un b).mpr (.inr q))
      · rcases p with p | p | p
        · exact hq b (.inl p)
        · exact hq b (.inr ((un b).mpr (.inl ((hp b).mpr (.inr p)))))
        · exact hq b (.inr ((un b).mpr (.inr p)))
theorem qe_extend {i : Nat} {x : Str} {e : Expr} {apos np : Pos} {a : M D} (hN : X.N[i]? = some x) (hv : Vis X.env.scope x) (ha : QE T io X W p e a) (hd : (x == ("__debug__" : Str)) = false := by decide) (hcd : (x == ("__classdict__" : Str)) = false := by decide)
    (hst : starEach [e] X.env = [(false, eval e X.env)] := by rfl)
    (hbase : attributeBase (.Name x np) ("extend" : Str) X.env (eval (.Name x np) X.env) = eval (.Name x np) X.env := by rfl)
    (hfew : ((backTo pos (starEach [e] X.env)).all (fun x => !x.1) && (backToKw pos (keywordEach [] X.env)).all (fun x => x.1.isSome) && decide (([e] : List Expr).length + ([] : List Keyword).length + (if ([] : List Keyword).isEmpty then 0 else 1) < 30)) = true := by rfl)
    (hline : (apos.endLine == pos.line) = true := by rfl) (hplain : (backTo pos (starEach [] X.env)).any (·.1) = false := by rfl) :
    QE T io X W false (.Call (.Attribute (.Name x np) "extend" apos) [e] [] pos) (mExtend i a) := fun G g => PE.imp (pe_bm PySem.F.plainAttrs_list PySem.F.slot_list_extend PySem.F.type_list_extend mt_extend (pe_var hN hv hd hcd) (pa_cons (ha G g) pa_nil hst) hbase hfew hline hst hplain) fun σ H Q ⟨F, r, t, tv, h1, h2⟩ => by
  unfold mExtend at h2
  split at h2
  · rename_i hL
    obtain ⟨c, vs0, ec, hc⟩ := isL_lk h1 hL
    refine ⟨_, ec, .inl ⟨rfl, vs0, hc⟩, F, r, t, tv, h1, (sat_bind h2).mono (fun d r1 q v F1 H1 s1 s2 h3 => ?_) fun _ _ q => q⟩
    split at q
    · rename_i es ds e1
      split at q
      · rename_i hz
        obtain ⟨b, zs, rfl, hb, hl, h4⟩ := Rl.ownTop h3
        obtain ⟨a', vs, C, dx, y1, y2, y3, y4, y5, y6⟩ := Rl.mutSlot hl h4 (ownL?_eq e1)
        rw [ec] at y1
        cases y1
        refine ⟨c, b, vs, zs, rfl, rfl, y3, hb, by rw [← y5, ← hl]; exact hz, ?_⟩
        exact q .non F1 _ s1 (fun z => nomatch z) ((y6 .lst (ds ++ es) (vs ++ zs) trivial trivial (Sel.rot hl y5)).push (.leaf rfl))
      · exact q.elim
    · exact q.elim
  · exact h2.elim
end
@[simp] theorem mM1_app (f : Str → D → Option D) (o e : M D) (r : VS) : mM1 f o e r = (o r).andThen fun d r => (M.opt (str? d) r).andThen fun a r => (e r).andThen fun l r => M.opt (f a l) r := by
  simp only [mM1, bind_app]; congr 1; funext x r; rw [bind_app]; congr 1; funext x r; rw [bind_app]
end VL

/-! VL19: index of lists. -/
namespace VL
open PySem PySem.Spec L2
section
variable {T : String → Option Addr} {io : Io} {X : Cx} {W : WX} {p p1 p2 : Bool} {pos : Pos}
/-- the first place of an equal one -/
def firstEq (q : PyData) : List PyData → Option Nat
  | [] => none
  | z :: zs => if PyData.eqv z q = true then some 0 else (firstEq q zs).map (· + 1)
theorem firstEq_some {q : PyData} : ∀ {zs : List PyData} {j : Nat}, firstEq q zs = some j → (∃ z, zs[j]? = some z ∧ PyData.eqv z q = true) ∧ ∀ (m : Nat) (z' : PyData), m < j → zs[m]? = some z' → PyData.eqv z' q = false
  | [], j, h => by cases h
  | z :: zs, j, h => by
    unfold firstEq at h
    by_cases c : PyData.eqv z q = true
    · rw [if_pos c] at h
      cases h
      exact ⟨⟨z, rfl, c⟩, fun m z' hm => by omega⟩
    · rw [if_neg c] at h
      cases e : firstEq q zs with
      | none => rw [e] at h; cases h
      | some i =>
        rw [e] at h
        cases h
        obtain ⟨⟨y, h1, h2⟩, h3⟩ := firstEq_some e
        refine ⟨⟨y, by simpa using h1, h2⟩, fun m z' hm hz => ?_⟩
        cases m with
        | zero => simp at hz; subst hz; simpa using c
        | succ m =>
          have hm : m + 1 < i + 1 := hm
          exact h3 m z' (by omega) (by simpa using hz)
def indexD (l d : D) : Option D := match l with
  | .node _ .lst ds => (match D.pyL ds, d.py with
    | some qs, some q => if SeqAt.shaped (.list qs) = true ∧ SeqAt.shaped q = true then (firstEq q qs).map fun j => .int (j : Nat) else none
    | _, _ => none)
  | _ => none
/-- l.index(d), l a list -/
def mIndexL (o e : M D) : M D := M.bind o fun l => M.bind (M.ck (match l with | .node _ .lst _ => true | _ => false)) fun _ => M.bind e fun d => M.opt (indexD l d)
theorem qe_index {o e : Expr} {apos : Pos} {mo me : M D} (hu : X.A.units + 65 < cLine) (ho : QB T io X W p o mo) (he : QB T io X W true e me) (hbase : attributeBase o ("index" : Str) X.env (eval o X.env) = eval o X.env := by rfl)
    (hfew : ((backTo pos (starEach [e] X.env)).all (fun x => !x.1) && (backToKw pos (keywordEach [] X.env)).all (fun x => x.1.isSome) && decide (([e] : List Expr).length + ([] : List Keyword).length + (if ([] : List Keyword).isEmpty then 0 else 1) < 30)) = true := by rfl)
    (hline : (apos.endLine == pos.line) = true := by rfl) (hst : starEach [e] X.env = [(false, eval e X.env)] := by rfl) (hplain : (backTo pos (starEach [] X.env)).any (·.1) = false := by rfl) :
    QE T io X W p (.Call (.Attribute o "index" apos) [e] [] pos) (mIndexL mo me) := fun G g => PE.imp (pe_bm PySem.F.plainAttrs_list PySem.F.slot_list_index PySem.F.type_list_index (mt_indexD hu) (ho G g) (pa_cons (he G g) pa_nil hst) hbase hfew hline hst hplain) fun σ H Q ⟨F, r, t, tv, h1, h2⟩ => by
  refine ⟨F, r, t, tv, h1, (sat_bind h2).mono (fun l r1 q v F1 H1 s1 z1 h3 lk => ?_) fun _ _ q => q⟩
  obtain ⟨hl, q⟩ := sat_ck (sat_bind q)
  split at hl
  · rename_i o ds q
    obtain ⟨a, vs, rfl, hn, hlk⟩ := lk.node h3.sub
    refine ⟨.inl ⟨rfl, vs, hn.2⟩, F1, r1, t, tv, h3, (sat_bind q).mono (fun d r2 q w F2 H2 s2 z2 h4 lk2 => ?_) fun _ _ q => q.trans s1⟩
    obtain ⟨d', e1, q⟩ := sat_opt q
    have e1 : (match D.pyL ds, d.py with | some qs, some q => if SeqAt.shaped (.list qs) = true ∧ SeqAt.shaped q = true then (firstEq q qs).map fun j => D.int (j : Nat) else none | _, _ => none) = some d' := e1
    · split at e1
      · rename_i qs q' e2 e3
        split at e1
        · rename_i hsh
          cases e4 : firstEq q' qs with
          | none => rw [e4] at e1; cases e1
          | some j =>
            rw [e4] at e1
            cases e1
            obtain ⟨⟨z, f1, f2⟩, f3⟩ := firstEq_some e4
            exact ⟨a, w, q', qs, j, z, rfl, rfl, py_dp (lk.mono s2 (z2 rfl)) h4.sub (by simp [D.py, e2]), py_dp lk2 h4.sub e3, hsh.1, hsh.2, f1, f2, f3, q _ F2 H2 (s1.trans s2) (fun z => (z1 z).trans (z2 rfl)) (h4.push (.leaf rfl))⟩
        · cases e1
      · cases e1
  · cases hl
end
end VL

/-! VL20: the evaluator: what a data function does, read from the left, every continuation a name. -/
namespace VL
open PySem PySem.Spec L2
theorem sat_bind_eq {α β : Type} {m : M α} {k : α → M β} {r : VS} {ok : β → VS → Prop} {ex : String → VS → Prop} : (M.bind m k r).sat ok ex = (m r).sat (fun a r' => (k a r').sat ok ex) ex := by
  unfold M.bind
  cases m r <;> rfl
def optK {α : Type} (o : Option α) (r : VS) (K : α → VS → Prop) : Prop := match o with | some a => K a r | none => False
theorem optK_some {α : Type} {a : α} {r : VS} {K : α → VS → Prop} : optK (some a) r K = K a r := nr rfl
theorem optK_none {α : Type} {r : VS} {K : α → VS → Prop} : optK none r K = False := nr rfl
theorem optK_ite {α : Type} {p : Prop} [Decidable p] {a b : Option α} {r : VS} {K : α → VS → Prop} : optK (if p then a else b) r K = if p then optK a r K else optK b r K := by split <;> rfl
theorem sat_opt_eq {α : Type} {o : Option α} {r : VS} {K : α → VS → Prop} {ex : String → VS → Prop} : (M.opt o r).sat K ex = optK o r K := by cases o <;> rfl
theorem sat_ret_eq {α : Type} {a : α} {r : VS} {K : α → VS → Prop} {ex : String → VS → Prop} : (M.ret a r).sat K ex = K a r := nr rfl
theorem sat_ok_eq {α : Type} {a : α} {r : VS} {K : α → VS → Prop} {ex : String → VS → Prop} : (R.ok a r).sat K ex = K a r := nr rfl
theorem sat_ex_eq {α : Type} {c : String} {r : VS} {K : α → VS → Prop} {ex : String → VS → Prop} : (R.ex c r : R α).sat K ex = ex c r := nr rfl
theorem sat_no_eq {α : Type} {K : α → VS → Prop} {ex : String → VS → Prop} : (R.no : R α).sat K ex = False := nr rfl
theorem sat_ite_eq {α : Type} {p : Prop} [Decidable p] {x y : R α} {K : α → VS → Prop} {ex : String → VS → Prop} : (if p then x else y).sat K ex = if p then x.sat K ex else y.sat K ex := by split <;> rfl
theorem sat_ck_eq {b : Bool} {r : VS} {K : Unit → VS → Prop} {ex : String → VS → Prop} : (M.ck b r).sat K ex = (b = true ∧ K () r) := by
  cases b
  · exact (propext ⟨fun z => z.elim, fun z => nomatch z.1⟩)
  · exact (propext ⟨fun z => ⟨rfl, z⟩, fun z => z.2⟩)
theorem slot0n (r : VS) : slot? 0 (none :: r) = none := nr rfl
theorem slotN (i : Nat) : slot? i [] = none := nr rfl
section
variable {r : VS} {ok : Fl → VS → Prop} {ex : String → VS → Prop} {K : D → VS → Prop} {KB : Bool → VS → Prop} {KL : List D → VS → Prop} {KO : Option Int → VS → Prop}
/-! names -/
def varK (r : VS) (i : Nat) (K : D → VS → Prop) (d : D) (_ : VS) : Prop := if d.shr = true then K d r else K d.frz (r.set i (some d.frz))
def moveK (i : Nat) (K : D → VS → Prop) (d : D) (r : VS) : Prop := K d (r.set i none)
theorem sat_peek {i : Nat} : (mPeek i r).sat K ex = optK (slot? i r) r K := by unfold mPeek; cases slot? i r <;> rfl
theorem sat_move {i : Nat} : (mMove i r).sat K ex = optK (slot? i r) r (moveK i K) := by unfold mMove; cases slot? i r <;> rfl
theorem sat_var {i : Nat} : (mVar i r).sat K ex = optK (slot? i r) r (varK r i K) := by
  unfold mVar
  cases slot? i r with
  | none => rfl
  | some d =>
    show (if d.shr = true then R.ok d r else _ : R D).sat K ex = _
    rw [sat_ite_eq]; rfl
theorem varK_leaf {r r' : VS} {i : Nat} {s : Sc} : varK r i K (.leaf s) r' = K (.leaf s) r := nr rfl
theorem varK_fz {r r' : VS} {i : Nat} {k : Kn} {ds : List D} : varK r i K (.node false k ds) r' = K (.node false k ds) r := nr rfl
theorem varK_own {r r' : VS} {i : Nat} {k : Kn} {ds : List D} : varK r i K (.node true k ds) r' = K (.node false k (D.frzL ds)) (r.set i (some (.node false k (D.frzL ds)))) := by
  show (if (false : Bool) = true then _ else _) = _
  rw [if_neg Bool.false_ne_true, frz_node]
theorem varK_shr {r r' : VS} {i : Nat} {d : D} (h : d.shr = true) : varK r i K d r' = K d r := if_pos h
theorem moveK_eq {i : Nat} {d : D} : moveK i K d r = K d (r.set i none) := nr rfl
/-! operators -/
def op1K (f : D → Option D) (K : D → VS → Prop) (x : D) (r : VS) : Prop := optK (f x) r K
def op2L (f : D → D → Option D) (b : M D) (K : D → VS → Prop) (ex : String → VS → Prop) (x : D) (r : VS) : Prop := (b r).sat (op1K (f x) K) ex
def opNK (f : List D → Option D) (K : D → VS → Prop) (x : List D) (r : VS) : Prop := optK (f x) r K
theorem sat_op1 {f : D → Option D} {a : M D} : (mOp1 f a r).sat K ex = (a r).sat (op1K f K) ex := by
  unfold mOp1; rw [sat_bind_eq]; congr 1; funext x r; exact sat_opt_eq
theorem sat_op2 {f : D → D → Option D} {a b : M D} : (mOp2 f a b r).sat K ex = (a r).sat (op2L f b K ex) ex := by
  unfold mOp2; rw [sat_bind_eq]; congr 1; funext x r; exact sat_op1
theorem sat_ix {a b : M D} : (mIx a b r).sat K ex = (a r).sat (op2L fIx b K ex) ex := sat_op2
theorem sat_opN {f : List D → Option D} {a : M (List D)} : (mOpN f a r).sat K ex = (a r).sat (opNK f K) ex := by
  unfold mOpN; rw [sat_bind_eq]; congr 1; funext x r; exact sat_opt_eq
theorem op1K_eq {f : D → Option D} {x : D} : op1K f K x r = optK (f x) r K := nr rfl
theorem op2L_eq {f : D → D → Option D} {b : M D} {x : D} : op2L f b K ex x r = (b r).sat (op1K (f x) K) ex := nr rfl
theorem opNK_eq {f : List D → Option D} {x : List D} : opNK f K x r = optK (f x) r K := nr rfl
/-! lists of expressions -/
def consR (d : D) (KL : List D → VS → Prop) (ds : List D) (r : VS) : Prop := KL (d :: ds) r
def consL (b : M (List D)) (KL : List D → VS → Prop) (ex : String → VS → Prop) (d : D) (r : VS) : Prop := (b r).sat (consR d KL) ex
theorem sat_nil : (mNil r).sat KL ex = KL [] r := nr rfl
theorem sat_cons {a : M D} {b : M (List D)} : (mCons a b r).sat KL ex = (a r).sat (consL b KL ex) ex := by
  unfold mCons; rw [sat_bind_eq]; congr 1; funext x r; rw [sat_bind_eq]; rfl
theorem consL_eq {b : M (List D)} {d : D} : consL b KL ex d r = (b r).sat (consR d KL) ex := nr rfl
theorem consR_eq {d : D} {ds : List D} : consR d KL ds r = KL (d :: ds) r := nr rfl
def lstK (K : D → VS → Prop) (ds : List D) (r : VS) : Prop := ds.length ≤ sizeLine ∧ K (.lst true ds) r
def tupK (K : D → VS → Prop) (ds : List D) (r : VS) : Prop := ds.length ≤ sizeLine ∧ K (.tup (!ds.all D.shr) ds) r
theorem sat_lst {a : M (List D)} : (mLst a r).sat K ex = (a r).sat (lstK K) ex := by
  unfold mLst; rw [sat_bind_eq]; congr 1; funext x r; rw [sat_bind_eq, sat_ck_eq]; simp only [decide_eq_true_eq]; rfl
theorem sat_tup {a : M (List D)} : (mTup a r).sat K ex = (a r).sat (tupK K) ex := by
  unfold mTup; rw [sat_bind_eq]; congr 1; funext x r; rw [sat_bind_eq, sat_ck_eq]; simp only [decide_eq_true_eq]; rfl
theorem lstK_eq {ds : List D} : lstK K ds r = (ds.length ≤ sizeLine ∧ K (.lst true ds) r) := nr rfl
theorem tupK_eq {ds : List D} : tupK K ds r = (ds.length ≤ sizeLine ∧ K (.tup (!ds.all D.shr) ds) r) := nr rfl
def shK (K : D → VS → Prop) (d : D) (r : VS) : Prop := d.shr = true ∧ K d r
theorem sat_sh {a : M D} : (mSh a r).sat K ex = (a r).sat (shK K) ex := by
  unfold mSh; rw [sat_bind_eq]; congr 1; funext x r; rw [sat_bind_eq, sat_ck_eq]; rfl
theorem shK_eq {d : D} : shK K d r = (d.shr = true ∧ K d r) := nr rfl
/-! tests -/
def testK (KB : Bool → VS → Prop) (d : D) (r : VS) : Prop := optK d.bl? r KB
theorem sat_test {a : M D} : (mTest a r).sat KB ex = (a r).sat (testK KB) ex := by
  unfold mTest; rw [sat_bind_eq]; congr 1; funext x r; exact sat_opt_eq
theorem testK_bl {b : Bool} : testK KB (.bl b) r = KB b r := nr rfl
def notK (KB : Bool → VS → Prop) (b : Bool) (r : VS) : Prop := KB (!b) r
theorem sat_notT {a : M Bool} : (mNotT a r).sat KB ex = (a r).sat (notK KB) ex := by
  unfold mNotT; rw [sat_bind_eq]; rfl
theorem notK_eq {b : Bool} : notK KB b r = KB (!b) r := nr rfl
def andK (b : M Bool) (KB : Bool → VS → Prop) (ex : String → VS → Prop) (x : Bool) (r : VS) : Prop := if x = true then (b r).sat KB ex else KB false r
def orK (b : M Bool) (KB : Bool → VS → Prop) (ex : String → VS → Prop) (x : Bool) (r : VS) : Prop := if x = true then KB true r else (b r).sat KB ex
theorem sat_andT {a b : M Bool} : (mAndT a b r).sat KB ex = (a r).sat (andK b KB ex) ex := by
  unfold mAndT; rw [sat_bind_eq]; congr 1; funext x r; cases x <;> rfl
theorem sat_orT {a b : M Bool} : (mOrT a b r).sat KB ex = (a r).sat (orK b KB ex) ex := by
  unfold mOrT; rw [sat_bind_eq]; congr 1; funext x r; cases x <;> rfl
theorem andK_eq {b : M Bool} {x : Bool} : andK b KB ex x r = if x = true then (b r).sat KB ex else KB false r := nr rfl
theorem orK_eq {b : M Bool} {x : Bool} : orK b KB ex x r = if x = true then KB true r else (b r).sat KB ex := nr rfl
def blK (K : Bool → VS → Prop) (d : D) (r : VS) : Prop := optK d.bl? r K
def asD (K : D → VS → Prop) (b : Bool) (r : VS) : Prop := K (.bl b) r
def andDK (b : M D) (K : D → VS → Prop) (ex : String → VS → Prop) (x : Bool) (r : VS) : Prop := if x = true then (b r).sat K ex else K (.bl false) r
def orDK (b : M D) (K : D → VS → Prop) (ex : String → VS → Prop) (x : Bool) (r : VS) : Prop := if x = true then K (.bl true) r else (b r).sat K ex
theorem sat_and {a b : M D} : (mAnd a b r).sat K ex = (a r).sat (blK (andDK b K ex)) ex := by
  unfold mAnd; rw [sat_bind_eq]; congr 1; funext x r; rw [sat_bind_eq, sat_opt_eq]; unfold blK; congr 1; funext c r; cases c <;> rfl
theorem sat_or {a b : M D} : (mOr a b r).sat K ex = (a r).sat (blK (orDK b K ex)) ex := by
  unfold mOr; rw [sat_bind_eq]; congr 1; funext x r; rw [sat_bind_eq, sat_opt_eq]; unfold blK; congr 1; funext c r; cases c <;> rfl
def notDK (K : D → VS → Prop) (x : Bool) (r : VS) : Prop := K (.bl (!x)) r
theorem sat_not {a : M D} : (mNot a r).sat K ex = (a r).sat (blK (notDK K)) ex := by
  unfold mNot; rw [sat_bind_eq]; congr 1; funext x r; rw [sat_bind_eq, sat_opt_eq]; rfl
theorem blK_bl {KB : Bool → VS → Prop} {b : Bool} : blK KB (.bl b) r = KB b r := nr rfl
theorem andDK_eq {b : M D} {x : Bool} : andDK b K ex x r = if x = true then (b r).sat K ex else K (.bl false) r := nr rfl
theorem orDK_eq {b : M D} {x : Bool} : orDK b K ex x r = if x = true then K (.bl true) r else (b r).sat K ex := nr rfl
theorem notDK_eq {x : Bool} : notDK K x r = K (.bl (!x)) r := nr rfl
def ifDK (a b : M D) (K : D → VS → Prop) (ex : String → VS → Prop) (x : Bool) (r : VS) : Prop := if x = true then (a r).sat K ex else (b r).sat K ex
theorem sat_ifD {c : M Bool} {a b : M D} : (mIf c a b r).sat K ex = (c r).sat (ifDK a b K ex) ex := by
  unfold mIf; rw [sat_bind_eq]; congr 1; funext x r; cases x <;> rfl
theorem ifDK_eq {a b : M D} {x : Bool} : ifDK a b K ex x r = if x = true then (a r).sat K ex else (b r).sat K ex := nr rfl
def isiK (f : String → Bool) (K : D → VS → Prop) (d : D) (r : VS) : Prop := noIns d = true ∧ K (.bl (f (tyD d))) r
theorem sat_isi {f : String → Bool} {a : M D} : (mIsi f a r).sat K ex = (a r).sat (isiK f K) ex := by
  unfold mIsi; rw [sat_bind_eq]; congr 1; funext x r; rw [sat_bind_eq, sat_ck_eq]; rfl
theorem isiK_eq {f : String → Bool} {d : D} : isiK f K d r = (noIns d = true ∧ K (.bl (f (tyD d))) r) := nr rfl
def chainR (f' : D → D → Option D) (y : D) (c : M D) (K : D → VS → Prop) (ex : String → VS → Prop) (k : Bool) (r : VS) : Prop := if k = true then (c r).sat (op1K (f' y) K) ex else K (.bl false) r
def chainM (f f' : D → D → Option D) (c : M D) (K : D → VS → Prop) (ex : String → VS → Prop) (x y : D) (r : VS) : Prop := optK ((f x y).bind D.bl?) r (chainR f' y c K ex)
def chainL (f f' : D → D → Option D) (b c : M D) (K : D → VS → Prop) (ex : String → VS → Prop) (x : D) (r : VS) : Prop := (b r).sat (chainM f f' c K ex x) ex
theorem sat_chain {f f' : D → D → Option D} {a b c : M D} : (mChain f f' a b c r).sat K ex = (a r).sat (chainL f f' b c K ex) ex := by
  unfold mChain; rw [sat_bind_eq]; congr 1; funext x r; rw [sat_bind_eq]; unfold chainL; congr 1; funext y r; rw [sat_bind_eq, sat_opt_eq]; unfold chainM; congr 1; funext k r
  cases k
  · rfl
  · show ((M.bind c fun z => M.opt (f' y z)) r).sat K ex = _
    rw [sat_bind_eq]; unfold chainR; rw [if_pos rfl]; congr 1; funext z r; exact sat_opt_eq
theorem chainL_eq {f f' : D → D → Option D} {b c : M D} {x : D} : chainL f f' b c K ex x r = (b r).sat (chainM f f' c K ex x) ex := nr rfl
theorem chainM_eq {f f' : D → D → Option D} {c : M D} {x y : D} : chainM f f' c K ex x y r = optK ((f x y).bind D.bl?) r (chainR f' y c K ex) := nr rfl
theorem chainR_eq {f' : D → D → Option D} {c : M D} {y : D} {k : Bool} : chainR f' y c K ex k r = if k = true then (c r).sat (op1K (f' y) K) ex else K (.bl false) r := nr rfl
/-! slices -/
def slH (lo : Option Int) (d : D) (K : D → VS → Prop) (hi : Option Int) (r : VS) : Prop := optK (fSl d lo hi) r K
def slL (hi : M (Option Int)) (d : D) (K : D → VS → Prop) (ex : String → VS → Prop) (lo : Option Int) (r : VS) : Prop := (hi r).sat (slH lo d K) ex
def slD (lo hi : M (Option Int)) (K : D → VS → Prop) (ex : String → VS → Prop) (d : D) (r : VS) : Prop := (lo r).sat (slL hi d K ex) ex
theorem sat_sl {a : M D} {lo hi : M (Option Int)} : (mSl a lo hi r).sat K ex = (a r).sat (slD lo hi K ex) ex := by
  unfold mSl; rw [sat_bind_eq]; congr 1; funext x r; rw [sat_bind_eq]; unfold slD; congr 1; funext y r; rw [sat_bind_eq]; unfold slL; congr 1; funext z r; exact sat_opt_eq
theorem slD_eq {lo hi : M (Option Int)} {d : D} : slD lo hi K ex d r = (lo r).sat (slL hi d K ex) ex := nr rfl
theorem slL_eq {hi : M (Option Int)} {d : D} {lo : Option Int} : slL hi d K ex lo r = (hi r).sat (slH lo d K) ex := nr rfl
theorem slH_eq {d : D} {lo hi : Option Int} : slH lo d K hi r = optK (fSl d lo hi) r K := nr rfl
def partK (KO : Option Int → VS → Prop) (d : D) (r : VS) : Prop := match d with | .leaf (.int i) => KO (some i) r | _ => False
theorem sat_part {a : M D} : (mPart a r).sat KO ex = (a r).sat (partK KO) ex := by
  unfold mPart; rw [sat_bind_eq]; congr 1; funext x r; rw [sat_bind_eq, sat_opt_eq]
  cases x with
  | leaf s => cases s <;> rfl
  | node => rfl
theorem partK_int {i : Int} : partK KO (.int i) r = KO (some i) r := nr rfl
/-! calls -/
def RF.toF : RF → VS → R D := fun x r => match x with
  | .ok d [] => .ok d r
  | .ex c [] => .ex c r
  | _ => .no
def RF.toB : RF → VS → R D := fun x r => match x with
  | .ok (.leaf s) [] => .ok (.leaf s) r
  | .ex c [] => .ex c r
  | _ => .no
theorem runF_toF (fn : Fn) (ds : List D) (r : VS) : runF fn ds r = (fn ds).toF r := by unfold runF RF.toF; rfl
theorem runB_toB (fn : Fn) (ds : List D) (r : VS) : runB fn ds r = (fn ds).toB r := by
  unfold runB RF.toB
  cases fn ds with
  | no => rfl
  | ex c o => cases o <;> rfl
  | ok d o => cases o <;> cases d <;> rfl
theorem toF_ok {d : D} : (RF.ok d []).toF r = .ok d r := nr rfl
theorem toF_ex {c : String} : (RF.ex c []).toF r = .ex c r := nr rfl
theorem toB_ok {s : Sc} : (RF.ok (.leaf s) []).toB r = .ok (.leaf s) r := nr rfl
theorem toB_ex {c : String} : (RF.ex c []).toB r = .ex c r := nr rfl
theorem toF_ite {p : Prop} [Decidable p] {a b : RF} : (if p then a else b).toF r = if p then a.toF r else b.toF r := by split <;> rfl
theorem toB_ite {p : Prop} [Decidable p] {a b : RF} : (if p then a else b).toB r = if p then a.toB r else b.toB r := by split <;> rfl
def callFK (np : Nat) (fn : Fn) (K : D → VS → Prop) (ex : String → VS → Prop) (ds : List D) (r : VS) : Prop := ds.length = np ∧ ((fn (D.frzL ds)).toF r).sat K ex
def callBK (np : Nat) (fn : Fn) (K : D → VS → Prop) (ex : String → VS → Prop) (ds : List D) (r : VS) : Prop := ds.length = np ∧ ((fn (D.frzL ds)).toB r).sat K ex
theorem sat_callF {np : Nat} {fn : Fn} {a : M (List D)} : (mCallF np fn a r).sat K ex = (a r).sat (callFK np fn K ex) ex := by
  unfold mCallF; rw [sat_bind_eq]; congr 1; funext x r; rw [sat_bind_eq, sat_ck_eq]; simp only [decide_eq_true_eq, runF_toF]; rfl
theorem sat_callB {np : Nat} {fn : Fn} {a : M (List D)} : (mCallB np fn a r).sat K ex = (a r).sat (callBK np fn K ex) ex := by
  unfold mCallB; rw [sat_bind_eq]; congr 1; funext x r; rw [sat_bind_eq, sat_ck_eq]; simp only [decide_eq_true_eq, runB_toB]; rfl
theorem callFK_eq {np : Nat} {fn : Fn} {ds : List D} : callFK np fn K ex ds r = (ds.length = np ∧ ((fn (D.frzL ds)).toF r).sat K ex) := nr rfl
theorem callBK_eq {np : Nat} {fn : Fn} {ds : List D} : callBK np fn K ex ds r = (ds.length = np ∧ ((fn (D.frzL ds)).toB r).sat K ex) := nr rfl
def callFDK (np : Nat) (fn : Fn) (ss : List Sc) (K : D → VS → Prop) (ex : String → VS → Prop) (ds : List D) (r : VS) : Prop := (ds ++ ss.map D.leaf).length = np ∧ ((fn (D.frzL (ds ++ ss.map D.leaf))).toF r).sat K ex
def callBDK (np : Nat) (fn : Fn) (ss : List Sc) (K : D → VS → Prop) (ex : String → VS → Prop) (ds : List D) (r : VS) : Prop := (ds ++ ss.map D.leaf).length = np ∧ ((fn (D.frzL (ds ++ ss.map D.leaf))).toB r).sat K ex
theorem sat_callFD {np : Nat} {fn : Fn} {ss : List Sc} {a : M (List D)} : (mCallFD np fn ss a r).sat K ex = (a r).sat (callFDK np fn ss K ex) ex := by
  unfold mCallFD; rw [sat_bind_eq]; congr 1; funext x r; rw [sat_bind_eq, sat_ck_eq]; simp only [decide_eq_true_eq, runF_toF]; rfl
theorem sat_callBD {np : Nat} {fn : Fn} {ss : List Sc} {a : M (List D)} : (mCallBD np fn ss a r).sat K ex = (a r).sat (callBDK np fn ss K ex) ex := by
  unfold mCallBD; rw [sat_bind_eq]; congr 1; funext x r; rw [sat_bind_eq, sat_ck_eq]; simp only [decide_eq_true_eq, runB_toB]; rfl
theorem callFDK_eq {np : Nat} {fn : Fn} {ss : List Sc} {ds : List D} : callFDK np fn ss K ex ds r = ((ds ++ ss.map D.leaf).length = np ∧ ((fn (D.frzL (ds ++ ss.map D.leaf))).toF r).sat K ex) := nr rfl
theorem callBDK_eq {np : Nat} {fn : Fn} {ss : List Sc} {ds : List D} : callBDK np fn ss K ex ds r = ((ds ++ ss.map D.leaf).length = np ∧ ((fn (D.frzL (ds ++ ss.map D.leaf))).toB r).sat K ex) := nr rfl
/-! statements -/
def seqK (b : M Fl) (ok : Fl → VS → Prop) (ex : String → VS → Prop) : Fl → VS → Prop := fun f r => match f with | .nx => (b r).sat ok ex | f => ok f r
theorem sat_seq {a b : M Fl} : (mSeq a b r).sat ok ex = (a r).sat (seqK b ok ex) ex := by
  unfold mSeq; rw [sat_bind_eq]; congr 1; funext f r; cases f <;> rfl
theorem seqK_nx {b : M Fl} : seqK b ok ex .nx r = (b r).sat ok ex := nr rfl
theorem seqK_rt {b : M Fl} {d : D} : seqK b ok ex (.rt d) r = ok (.rt d) r := nr rfl
theorem seqK_bk {b : M Fl} : seqK b ok ex .bk r = ok .bk r := nr rfl
theorem seqK_ct {b : M Fl} : seqK b ok ex .ct r = ok .ct r := nr rfl
def ifK (a b : M Fl) (ok : Fl → VS → Prop) (ex : String → VS → Prop) (x : Bool) (r : VS) : Prop := if x = true then (a r).sat ok ex else (b r).sat ok ex
theorem sat_if {c : M Bool} {a b : M Fl} : (mIfS c a b r).sat ok ex = (c r).sat (ifK a b ok ex) ex := by
  unfold mIfS; rw [sat_bind_eq]; congr 1; funext x r; cases x <;> rfl
theorem ifK_eq {a b : M Fl} {x : Bool} : ifK a b ok ex x r = if x = true then (a r).sat ok ex else (b r).sat ok ex := nr rfl
def asgK (g : Gt) (ok : Fl → VS → Prop) (d : D) (r : VS) : Prop := match g d r with | some r' => ok .nx r' | none => False
theorem sat_asg {a : M D} {g : Gt} : (mAsg a g r).sat ok ex = (a r).sat (asgK g ok) ex := by
  unfold mAsg; rw [sat_bind_eq]; congr 1; funext d r; unfold mTo asgK; cases g d r <;> rfl
theorem asgK_put {i : Nat} {d : D} : asgK (gPut i) ok d r = (i < r.length ∧ ok .nx (r.set i (some d))) := by
  unfold asgK gPut
  by_cases h : i < r.length
  · simp only [h, if_true, true_and]
  · simp only [h, if_false, false_and]
theorem asgK_eq {g : Gt} {d : D} : asgK g ok d r = optK (g d r) r (fun r' _ => ok .nx r') := by unfold asgK optK; cases g d r <;> rfl
def drpK (ok : Fl → VS → Prop) (_ : D) (r : VS) : Prop := ok .nx r
def retK (ok : Fl → VS → Prop) (d : D) (r : VS) : Prop := ok (.rt d) r
theorem sat_drop {a : M D} : (mDrop a r).sat ok ex = (a r).sat (drpK ok) ex := by unfold mDrop; rw [sat_bind_eq]; rfl
theorem sat_mret {a : M D} : (mRet a r).sat ok ex = (a r).sat (retK ok) ex := by unfold mRet; rw [sat_bind_eq]; rfl
theorem sat_retN : (mRetN r).sat ok ex = ok (.rt .non) r := nr rfl
theorem sat_raise {c : String} : (mRaise c r).sat ok ex = ex c r := nr rfl
theorem drpK_eq {d : D} : drpK ok d r = ok .nx r := nr rfl
theorem retK_eq {d : D} : retK ok d r = ok (.rt d) r := nr rfl
def forK (g : Gt) (b : M Fl) (ok : Fl → VS → Prop) (ex : String → VS → Prop) (ds : List D) (r : VS) : Prop := (mForL g b ds r).sat ok ex
theorem sat_for {src : M (List D)} {g : Gt} {b : M Fl} : (mFor src g b r).sat ok ex = (src r).sat (forK g b ok ex) ex := by unfold mFor; rw [sat_bind_eq]; rfl
theorem forK_eq {g : Gt} {b : M Fl} {ds : List D} : forK g b ok ex ds r = (mForL g b ds r).sat ok ex := nr rfl
def compK (own : List Nat) (g : Gt) (c : M Bool) (el : M D) (K : D → VS → Prop) (ex : String → VS → Prop) (ds : List D) (r : VS) : Prop := (lcRun own g c el ds r).sat K ex
theorem sat_comp {own : List Nat} {src : M (List D)} {g : Gt} {c : M Bool} {el : M D} : (mComp own src g c el r).sat K ex = (src r).sat (compK own g c el K ex) ex := by unfold mComp; rw [sat_bind_eq]; rfl
theorem compK_eq {own : List Nat} {g : Gt} {c : M Bool} {el : M D} {ds : List D} : compK own g c el K ex ds r = (lcRun own g c el ds r).sat K ex := nr rfl
def seqSK (KL : List D → VS → Prop) (d : D) (r : VS) : Prop := optK (seq? d) r fun ds r => KL (D.frzL ds) r
def anySK (KL : List D → VS → Prop) (d : D) (r : VS) : Prop := optK (items? d) r fun ds r => KL (D.frzL ds) r
theorem sat_iSeq {a : M D} : (iSeq a r).sat KL ex = (a r).sat (seqSK KL) ex := by
  unfold iSeq; rw [sat_bind_eq]; congr 1; funext d r; rw [sat_bind_eq, sat_opt_eq]; rfl
theorem sat_iAny {a : M D} : (iAny a r).sat KL ex = (a r).sat (anySK KL) ex := by
  unfold iAny; rw [sat_bind_eq]; congr 1; funext d r; rw [sat_bind_eq, sat_opt_eq]; rfl
theorem seqSK_lst {o : Bool} {ds : List D} : seqSK KL (.node o .lst ds) r = KL (D.frzL ds) r := nr rfl
theorem seqSK_tup {o : Bool} {ds : List D} : seqSK KL (.node o .tup ds) r = KL (D.frzL ds) r := nr rfl
def chs (x : Str) : List D := x.cps.toList.map fun c => .str ⟨#[c]⟩
theorem anySK_str {x : Str} : anySK KL (.str x) r = KL (chs x) r := by
  show KL (D.frzL (x.cps.toList.map fun c => .str ⟨#[c]⟩)) r = _
  have e : D.frzL (x.cps.toList.map fun c => .str ⟨#[c]⟩) = chs x := by
    rw [frzL_map, List.map_map]; rfl
  rw [e]
theorem anySK_lst {o : Bool} {ds : List D} : anySK KL (.node o .lst ds) r = KL (D.frzL ds) r := nr rfl
theorem anySK_tup {o : Bool} {ds : List D} : anySK KL (.node o .tup ds) r = KL (D.frzL ds) r := nr rfl
def rg1K (KL : List D → VS → Prop) (d : D) (r : VS) : Prop := match d with | .leaf (.int j) => bnd j = true ∧ KL (rangeL 0 j.toNat) r | _ => False
theorem sat_iRg1 {a : M D} : (iRg1 a r).sat KL ex = (a r).sat (rg1K KL) ex := by
  unfold iRg1; rw [sat_bind_eq]; congr 1; funext d r; rw [sat_bind_eq, sat_opt_eq]
  cases d with
  | node => rfl
  | leaf s => cases s <;> first | rfl | (show ((M.bind _ _) r).sat KL ex = _; rw [sat_bind_eq, sat_ck_eq]; rfl)
theorem rg1K_int {j : Int} : rg1K KL (.int j) r = (bnd j = true ∧ KL (rangeL 0 j.toNat) r) := nr rfl
def rg2R (i : Int) (KL : List D → VS → Prop) (d : D) (r : VS) : Prop := match d with | .leaf (.int j) => (bnd i && bnd j) = true ∧ KL (rangeL i (j - i).toNat) r | _ => False
def rg2L (b : M D) (KL : List D → VS → Prop) (ex : String → VS → Prop) (d : D) (r : VS) : Prop := match d with | .leaf (.int i) => (b r).sat (rg2R i KL) ex | _ => (b r).sat (fun _ _ => False) ex
theorem sat_iRg2 {a b : M D} : (iRg2 a b r).sat KL ex = (a r).sat (rg2L b KL ex) ex := by
  have key : ∀ i r, (M.bind b (fun e => M.bind (M.opt (some i)) fun i => M.bind (M.opt (int? e)) fun j => M.bind (M.ck (bnd i && bnd j)) fun _ => M.ret (rangeL i (j - i).toNat)) r).sat KL ex = (b r).sat (rg2R i KL) ex := fun i r => by
    rw [sat_bind_eq]; congr 1; funext e r; rw [sat_bind_eq, sat_opt_eq, optK_some, sat_bind_eq, sat_opt_eq]
    cases e with
    | node => rfl
    | leaf s => cases s <;> first | rfl | (show ((M.bind _ _) r).sat KL ex = _; rw [sat_bind_eq, sat_ck_eq]; rfl)
  have key2 : ∀ r, (M.bind b (fun e => M.bind (M.opt (none : Option Int)) fun i => M.bind (M.opt (int? e)) fun j => M.bind (M.ck (bnd i && bnd j)) fun _ => M.ret (rangeL i (j - i).toNat)) r).sat KL ex = (b r).sat (fun _ _ => False) ex := fun r => by
    rw [sat_bind_eq]; rfl
  unfold iRg2; rw [sat_bind_eq]; congr 1; funext d r
  cases d with
  | node => exact key2 r
  | leaf s => cases s <;> first | exact key _ r | exact key2 r
theorem rg2L_int {b : M D} {i : Int} : rg2L b KL ex (.int i) r = (b r).sat (rg2R i KL) ex := nr rfl
theorem rg2R_int {i j : Int} : rg2R i KL (.int j) r = ((bnd i && bnd j) = true ∧ KL (rangeL i (j - i).toNat) r) := nr rfl
/-! lists in slots -/
def appK (i : Nat) (K : D → VS → Prop) (d : D) (r : VS) : Prop := match ownL? i r with | some ds => ds.length < sizeLine ∧ K .non (r.set i (some (.lst true (ds ++ [d])))) | none => False
theorem sat_append {i : Nat} {a : M D} : (mAppend i a r).sat K ex = (isL i r = true ∧ (a r).sat (appK i K) ex) := by
  unfold mAppend
  cases isL i r with
  | false => exact propext ⟨fun z => z.elim, fun z => nomatch z.1⟩
  | true =>
    rw [if_pos rfl, sat_bind_eq]
    refine propext ⟨fun z => ⟨rfl, ?_⟩, fun z => ?_⟩
    · refine (show _ = _ from ?_).mp z
      congr 1; funext d r; unfold appK
      cases ownL? i r with
      | none => rfl
      | some ds =>
        show (if _ then _ else _ : R D).sat K ex = _
        by_cases hz : ds.length < sizeLine
        · rw [if_pos hz]; exact propext ⟨fun z => ⟨hz, z⟩, fun z => z.2⟩
        · rw [if_neg hz]; exact propext ⟨fun z => z.elim, fun z => (hz z.1).elim⟩
    · refine (show _ = _ from ?_).mpr z.2
      congr 1; funext d r; unfold appK
      cases ownL? i r with
      | none => rfl
      | some ds =>
        show (if _ then _ else _ : R D).sat K ex = _
        by_cases hz : ds.length < sizeLine
        · rw [if_pos hz]; exact propext ⟨fun z => ⟨hz, z⟩, fun z => z.2⟩
        · rw [if_neg hz]; exact propext ⟨fun z => z.elim, fun z => (hz z.1).elim⟩
def augR (i : Nat) (f : Int → Int → Int) (a : Int) (ok : Fl → VS → Prop) (d : D) (r : VS) : Prop := match d with | .leaf (.int b) => i < r.length ∧ ok .nx (r.set i (some (.int (f a b)))) | _ => False
def augL (i : Nat) (f : Int → Int → Int) (e : M D) (ok : Fl → VS → Prop) (ex : String → VS → Prop) (d : D) (r : VS) : Prop := match d with | .leaf (.int a) => (e r).sat (augR i f a ok) ex | _ => False
theorem sat_aug {i : Nat} {f : Int → Int → Int} {e : M D} : (mAug i f e r).sat ok ex = optK (slot? i r) r (augL i f e ok ex) := by
  unfold mAug; rw [sat_bind_eq]
  have key : ∀ a, ((M.bind e fun d => M.bind (M.opt (int? d)) fun b => mTo (gPut i) (.int (f a b))) r).sat ok ex = (e r).sat (augR i f a ok) ex := fun a => by
    rw [sat_bind_eq]; congr 1; funext d r; rw [sat_bind_eq, sat_opt_eq]
    cases d with
    | node => rfl
    | leaf s =>
      cases s with
      | int b =>
        have := @asgK_put r ok i (.int (f a b))
        show (mTo (gPut i) (.int (f a b)) r).sat ok ex = (i < r.length ∧ ok .nx (r.set i (some (.int (f a b)))))
        rw [← this]
        unfold asgK mTo
        cases gPut i (.int (f a b)) r <;> rfl
      | _ => rfl
  unfold slotI
  cases slot? i r with
  | none => rfl
  | some d =>
    cases d with
    | node => rfl
    | leaf s => cases s <;> first | rfl | exact key _
theorem augL_int {i : Nat} {f : Int → Int → Int} {e : M D} {a : Int} : augL i f e ok ex (.int a) r = (e r).sat (augR i f a ok) ex := nr rfl
theorem augR_int {i : Nat} {f : Int → Int → Int} {a b : Int} : augR i f a ok (.int b) r = (i < r.length ∧ ok .nx (r.set i (some (.int (f a b))))) := nr rfl
/-! texts -/
def joinR (a : Str) (K : D → VS → Prop) (d : D) (r : VS) : Prop := optK (joinD a d) r K
def joinL (e : M D) (K : D → VS → Prop) (ex : String → VS → Prop) (d : D) (r : VS) : Prop := match d with | .leaf (.str a) => (e r).sat (joinR a K) ex | _ => False
theorem sat_join {o e : M D} : (mJoin o e r).sat K ex = (o r).sat (joinL e K ex) ex := by
  unfold mJoin; rw [sat_bind_eq]; congr 1; funext d r; rw [sat_bind_eq, sat_opt_eq]
  cases d with
  | node => rfl
  | leaf s => cases s <;> first | rfl | (show ((M.bind _ _) r).sat K ex = _; rw [sat_bind_eq]; unfold joinL; dsimp only; congr 1; funext y r; exact sat_opt_eq)
theorem joinL_str {e : M D} {a : Str} : joinL e K ex (.str a) r = (e r).sat (joinR a K) ex := nr rfl
theorem joinR_eq {a : Str} {d : D} : joinR a K d r = optK (joinD a d) r K := nr rfl
/-! try -/
def tryAsX (i : Nat) (catch_ : String → Bool) (s : String → M Fl) (ok : Fl → VS → Prop) (ex : String → VS → Prop) (c : String) (r : VS) : Prop := if catch_ c = true then i < r.length ∧ (s c (r.set i none)).sat (fun f r => ok f (r.set i none)) (fun _ _ => False) else ex c r
theorem sat_tryAs {i : Nat} {b : M Fl} {catch_ : String → Bool} {s : String → M Fl} : (mTryAs i b catch_ s r).sat ok ex = (b r).sat ok (tryAsX i catch_ s ok ex) := by
  unfold mTryAs
  cases b r with
  | ok f r => rfl
  | no => rfl
  | ex c r =>
    show (if _ then _ else _ : R Fl).sat ok ex = tryAsX i catch_ s ok ex c r
    unfold tryAsX
    by_cases h : catch_ c = true
    · rw [if_pos h, if_pos h]
      by_cases h2 : i < r.length
      · rw [if_pos h2]
        simp only [h2, true_and]
        cases s c (r.set i none) <;> rfl
      · rw [if_neg h2]
        exact propext ⟨fun z => z.elim, fun z => (h2 z.1).elim⟩
    · rw [if_neg h, if_neg h]; rfl
def tryX (catch_ : String → Bool) (s : M Fl) (ok : Fl → VS → Prop) (ex : String → VS → Prop) (c : String) (r : VS) : Prop := if catch_ c = true then (s r).sat ok (fun _ _ => False) else ex c r
theorem sat_try {b : M Fl} {catch_ : String → Bool} {s : M Fl} : (mTry b catch_ s r).sat ok ex = (b r).sat ok (tryX catch_ s ok ex) := by
  unfold mTry
  cases b r with
  | ok f r => rfl
  | no => rfl
  | ex c r =>
    show (if _ then _ else _ : R Fl).sat ok ex = tryX catch_ s ok ex c r
    unfold tryX
    by_cases h : catch_ c = true
    · rw [if_pos h, if_pos h]
      unfold mCalm
      cases s r <;> rfl
    · rw [if_neg h, if_neg h]; rfl
theorem tryX_eq {catch_ : String → Bool} {s : M Fl} {c : String} : tryX catch_ s ok ex c r = if catch_ c = true then (s r).sat ok (fun _ _ => False) else ex c r := nr rfl
theorem tryAsX_eq {i : Nat} {catch_ : String → Bool} {s : String → M Fl} {c : String} : tryAsX i catch_ s ok ex c r = if catch_ c = true then i < r.length ∧ (s c (r.set i none)).sat (fun f r => ok f (r.set i none)) (fun _ _ => False) else ex c r := nr rfl
end
/-! ### functions -/
/-- the answer of a body -/
def ansK (P : RF → Prop) : Fl → VS → Prop := fun f _ => match f with | .rt d => P (.ok d []) | .nx => P (.ok .non []) | _ => False
def ansX (P : RF → Prop) : String → VS → Prop := fun c _ => P (.ex c [])
theorem fn_sat {n : Nat} {b : M Fl} {as : List D} {P : RF → Prop} (h : (b (as.map some ++ List.replicate (n - as.length) none)).sat (ansK P) (ansX P)) : P (fnM n [] b as) := by
  unfold fnM
  cases e : b (as.map some ++ List.replicate (n - as.length) none) with
  | no => rw [e] at h; exact h.elim
  | ex c r => rw [e] at h; exact h
  | ok f r =>
    rw [e] at h
    cases f with
    | nx => exact h
    | rt d => exact h
    | bk => exact h.elim
    | ct => exact h.elim
theorem ansK_rt {P : RF → Prop} {d : D} {r : VS} : ansK P (.rt d) r = P (.ok d []) := nr rfl
theorem ansK_nx {P : RF → Prop} {r : VS} : ansK P .nx r = P (.ok .non []) := nr rfl
theorem ansX_eq {P : RF → Prop} {c : String} {r : VS} : ansX P c r = P (.ex c []) := nr rfl
/-- the whole answer -/
def isR (x : RF) : RF → Prop := fun y => y = x
theorem fn_is {n : Nat} {b : M Fl} {as : List D} {x : RF} (h : (b (as.map some ++ List.replicate (n - as.length) none)).sat (ansK (isR x)) (ansX (isR x))) : fnM n [] b as = x := fn_sat (P := isR x) h
theorem isR_eq {x y : RF} : isR x y = (y = x) := nr rfl
/-! ### loops -/
def loopOk (J : VS → Prop) (ok : Fl → VS → Prop) : Fl → VS → Prop := fun f r => match f with | .nx => J r | .ct => J r | .bk => ok .nx r | .rt d => ok (.rt d) r
theorem loopOk_nx {J : VS → Prop} {ok : Fl → VS → Prop} {r : VS} : loopOk J ok .nx r = J r := nr rfl
theorem loopOk_ct {J : VS → Prop} {ok : Fl → VS → Prop} {r : VS} : loopOk J ok .ct r = J r := nr rfl
theorem loopOk_bk {J : VS → Prop} {ok : Fl → VS → Prop} {r : VS} : loopOk J ok .bk r = ok .nx r := nr rfl
theorem loopOk_rt {J : VS → Prop} {ok : Fl → VS → Prop} {r : VS} {d : D} : loopOk J ok (.rt d) r = ok (.rt d) r := nr rfl
section
variable {g : Gt} {b : M Fl} {ok : Fl → VS → Prop} {ex : String → VS → Prop}
/-- over l, seen as data by e: I tells the state by what is left -/
theorem for_ind {α : Type} {e : α → D} (I : List α → VS → Prop) {l : List α} {r : VS} (h0 : I l r) (hs : ∀ x l' r, I (x :: l') r → ∃ r1, g (e x) r = some r1 ∧ (b r1).sat (loopOk (I l') ok) ex) (hd : ∀ r, I [] r → ok .nx r) : (mForL g b (l.map e) r).sat ok ex := by
  induction l generalizing r with
  | nil => exact hd r h0
  | cons x l ih =>
    obtain ⟨r1, e1, h1⟩ := hs x l r h0
    rw [List.map_cons, forL_cons]
    unfold mTo
    rw [e1]
    simp only [andThen_ok]
    cases e2 : b r1 with
    | no => rw [e2] at h1; exact h1.elim
    | ex c r2 => rw [e2] at h1; exact h1
    | ok f r2 =>
      rw [e2] at h1
      simp only [andThen_ok]
      cases f with
      | nx => exact ih h1
      | ct => exact ih h1
      | bk => exact h1
      | rt d => exact h1
/-- over range -/
theorem for_rg (I : Nat → VS → Prop) {lo : Int} {n : Nat} {r : VS} (h0 : I 0 r) (hs : ∀ i r, i < n → I i r → ∃ r1, g (.int (lo + (i : Nat))) r = some r1 ∧ (b r1).sat (loopOk (I (i + 1)) ok) ex) (hd : ∀ r, I n r → ok .nx r) : (mForL g b (rangeL lo n) r).sat ok ex := by
  have key : ∀ k i r, i + k = n → I i r → (mForL g b ((List.range' i k).map fun (i : Nat) => D.int (lo + (i : Nat))) r).sat ok ex := by
    intro k
    induction k with
    | zero => intro i r hk hi; exact hd r (by have : i = n := by omega
                                              rw [← this]; exact hi)
    | succ k ih =>
      intro i r hk hi
      obtain ⟨r1, e1, h1⟩ := hs i r (by omega) hi
      rw [List.range'_succ, List.map_cons, forL_cons]
      unfold mTo
      rw [e1]
      simp only [andThen_ok]
      cases e2 : b r1 with
      | no => rw [e2] at h1; exact h1.elim
      | ex c r2 => rw [e2] at h1; exact h1
      | ok f r2 =>
        rw [e2] at h1
        simp only [andThen_ok]
        cases f with
        | nx => exact ih _ _ (by omega) h1
        | ct => exact ih _ _ (by omega) h1
        | bk => exact h1
        | rt d => exact h1
  have := key n 0 r (by omega) h0
  unfold rangeL
  rw [List.range_eq_range']
  exact this
theorem while_ind {c : M Bool} (I : Nat → VS → Prop) {r : VS} {n : Nat} (h0 : I n r) (hs : ∀ n r, I n r → (c r).sat (fun x r1 => if x = true then ∃ k, k < n ∧ (b r1).sat (loopOk (I k) ok) ex else ok .nx r1) ex) : (mWhile c b r).sat ok ex := by
  induction n using Nat.strongRecOn generalizing r with
  | ind n ih =>
    have h := hs n r h0
    rw [mWhile_eqn, bind_app]
    cases e : c r with
    | no => rw [e] at h; exact h.elim
    | ex cc r1 => rw [e] at h; exact h
    | ok x r1 =>
      rw [e] at h
      have h : if x = true then ∃ k, k < n ∧ (b r1).sat (loopOk (I k) ok) ex else ok .nx r1 := h
      cases x with
      | false => exact h
      | true =>
        rw [if_pos rfl] at h
        obtain ⟨k, hk, h⟩ := h
        rw [andThen_ok, if_pos rfl, bind_app]
        cases e2 : b r1 with
        | no => rw [e2] at h; exact h.elim
        | ex cc r2 => rw [e2] at h; exact h
        | ok f r2 =>
          rw [e2] at h
          rw [andThen_ok]
          cases f with
          | nx => exact ih k hk h
          | ct => exact ih k hk h
          | bk => exact h
          | rt d => exact h
end
/-! ### comprehensions -/
/-- [f x for x in l if p x] -/
theorem comp_ind {α : Type} {e f : α → D} {p : α → Bool} {l : List α} {own : List Nat} {g : Gt} {c : M Bool} {el : M D} {r : VS} {K : D → VS → Prop} {ex : String → VS → Prop} (J : VS → Prop) (h0 : J (hide own r))
    (hs : ∀ x, x ∈ l → ∀ r, J r → ∃ r1, g (e x) r = some r1 ∧ (c r1).sat (fun b r2 => b = p x ∧ if b = true then (el r2).sat (fun y r3 => y = f x ∧ J (hide own r3)) (fun _ _ => False) else J (hide own r2)) (fun _ _ => False))
    (hl : l.length ≤ sizeLine) (hk : ∀ r1, J r1 → K (.lst true ((l.filter p).map f)) (unhide own r r1)) : (lcRun own g c el (l.map e) r).sat K ex := by
  have key : ∀ (l : List α) (acc : List D) (r : VS), J (hide own r) → (∀ x, x ∈ l → ∀ r, J r → ∃ r1, g (e x) r = some r1 ∧ (c r1).sat (fun b r2 => b = p x ∧ if b = true then (el r2).sat (fun y r3 => y = f x ∧ J (hide own r3)) (fun _ _ => False) else J (hide own r2)) (fun _ _ => False)) →
      acc.length + l.length ≤ sizeLine → ∃ r1, J r1 ∧ lcL own g c el (l.map e) acc r = .ok (acc ++ (l.filter p).map f) r1 := by
    intro l
    induction l with
    | nil => intro acc r h0 _ _; exact ⟨_, h0, by rw [List.map_nil, lcL_nil]; simp⟩
    | cons x l ih =>
      intro acc r h0 hs hl
      obtain ⟨r1, e1, h1⟩ := hs x List.mem_cons_self _ h0
      simp only [List.length_cons] at hl
      have step : lcL own g c el ((x :: l).map e) acc r = (M.bind (M.calm c) (fun b => if b = true then M.bind (M.calm el) fun y => M.bind (M.ck (decide (acc.length < sizeLine))) fun _ => lcL own g c el (l.map e) (acc ++ [y]) else lcL own g c el (l.map e) acc)) r1 := by
        show M.bind (mHide own) _ r = _
        rw [bind_app]
        show M.bind (mToU g (e x)) _ (hide own r) = _
        rw [bind_app]
        unfold mToU
        rw [e1]
        rfl
      rw [step, bind_app]
      unfold M.calm
      cases e2 : c r1 with
      | no => rw [e2] at h1; exact h1.elim
      | ex cc r2 => rw [e2] at h1; exact h1.elim
      | ok bb r2 =>
        rw [e2] at h1
        obtain ⟨hb, h1⟩ : bb = p x ∧ (if bb = true then (el r2).sat (fun y r3 => y = f x ∧ J (hide own r3)) (fun _ _ => False) else J (hide own r2)) := h1
        rw [andThen_ok]
        cases bb with
        | false =>
          rw [if_neg Bool.false_ne_true] at h1 ⊢
          obtain ⟨r3, j, e3⟩ := ih acc r2 h1 (fun x hx => hs x (List.mem_cons_of_mem _ hx)) (by omega)
          exact ⟨r3, j, by rw [e3, List.filter_cons, ← hb, if_neg Bool.false_ne_true]⟩
        | true =>
          rw [if_pos rfl] at h1 ⊢
          rw [bind_app]
          cases e3 : el r2 with
          | no => rw [e3] at h1; exact h1.elim
          | ex cc r3 => rw [e3] at h1; exact h1.elim
          | ok y r3 =>
            rw [e3] at h1
            obtain ⟨hy, hj⟩ : y = f x ∧ J (hide own r3) := h1
            subst hy
            simp only [andThen_ok, bind_app]
            rw [ck_dec (by omega), andThen_ok]
            obtain ⟨r4, j, e4⟩ := ih (acc ++ [f x]) r3 hj (fun x hx => hs x (List.mem_cons_of_mem _ hx)) (by simp; omega)
            exact ⟨r4, j, by rw [e4, List.filter_cons, ← hb, if_pos rfl]; simp⟩
  obtain ⟨r1, j, e1⟩ := key l [] r h0 hs (by simpa using hl)
  unfold lcRun
  rw [e1]
  exact hk r1 j
/-- [f x for x in l], the state as it was -/
theorem comp_map {α : Type} {e f : α → D} {l : List α} {own : List Nat} {g : Gt} {el : M D} {r : VS} {K : D → VS → Prop} {ex : String → VS → Prop}
    (hs : ∀ x, x ∈ l → ∃ r1, g (e x) (hide own r) = some r1 ∧ (el r1).sat (fun y r3 => y = f x ∧ hide own r3 = hide own r) (fun _ _ => False))
    (hl : l.length ≤ sizeLine) (hk : K (.lst true (l.map f)) (unhide own r (hide own r))) : (lcRun own g mYes el (l.map e) r).sat K ex := by
  refine comp_ind (f := f) (p := fun _ => true) (fun r1 => r1 = hide own r) rfl (fun x hx r1 e1 => ?_) hl (fun r1 e1 => ?_)
  · obtain ⟨r2, h1, h2⟩ := hs x hx
    refine ⟨r2, by rw [e1]; exact h1, ?_⟩
    show _ = _ ∧ _
    exact ⟨rfl, h2⟩
  · subst e1
    rw [show l.filter (fun _ => true) = l from List.filter_eq_self.mpr fun _ _ => rfl]
    exact hk
theorem comp_filter {α : Type} {e f : α → D} {p : α → Bool} {l : List α} {own : List Nat} {g : Gt} {c : M Bool} {el : M D} {r : VS} {K : D → VS → Prop} {ex : String → VS → Prop}
    (hs : ∀ x, x ∈ l → ∃ r1, g (e x) (hide own r) = some r1 ∧ (c r1).sat (fun b r2 => b = p x ∧ if b = true then (el r2).sat (fun y r3 => y = f x ∧ hide own r3 = hide own r) (fun _ _ => False) else hide own r2 = hide own r) (fun _ _ => False))
    (hl : l.length ≤ sizeLine) (hk : K (.lst true ((l.filter p).map f)) (unhide own r (hide own r))) : (lcRun own g c el (l.map e) r).sat K ex := by
  refine comp_ind (f := f) (p := p) (fun r1 => r1 = hide own r) rfl (fun x hx r1 e1 => ?_) hl (fun r1 e1 => ?_)
  · subst e1
    exact hs x hx
  · subst e1
    exact hk
end VL

/-! VL21: the plain laws' tools: equality, texts, sizes, products. -/
namespace VL
open PySem PySem.Spec L2
/-! ### equality of plain data -/
mutual
/-- no flag within -/
def nbP : PyData → Bool
  | .bool _ => false
  | .list xs => nbL xs
  | .tuple xs => nbL xs
  | .dict _ => false
  | _ => true
def nbL : List PyData → Bool
  | [] => true
  | x :: xs => nbP x && nbL xs
end
mutual
theorem eqv_iff : ∀ {p q : PyData}, nbP p = true → nbP q = true → (PyData.eqv p q = true ↔ p = q)
  | .none, q, _, h => by cases q <;> simp_all [PyData.eqv, nbP]
  | .bool b, _, h, _ => by simp [nbP] at h
  | .int i, q, _, h => by cases q <;> simp_all [PyData.eqv, nbP]
  | .str x, q, _, h => by
    cases q <;> simp_all [PyData.eqv, nbP]
  | .list xs, q, h1, h => by
    cases q <;> simp [PyData.eqv, nbP] at h h1 ⊢
    exact eqvL_iff h1 h
  | .tuple xs, q, h1, h => by
    cases q <;> simp [PyData.eqv, nbP] at h h1 ⊢
    exact eqvL_iff h1 h
  | .dict _, _, h, _ => by simp [nbP] at h
theorem eqvL_iff : ∀ {p q : List PyData}, nbL p = true → nbL q = true → (PyData.eqvAll p q = true ↔ p = q)
  | [], [], _, _ => by simp [PyData.eqvAll]
  | [], _ :: _, _, _ => by simp [PyData.eqvAll]
  | _ :: _, [], _, _ => by simp [PyData.eqvAll]
  | x :: xs, y :: ys, h1, h2 => by
    simp only [nbL, Bool.and_eq_true] at h1 h2
    simp only [PyData.eqvAll, Bool.and_eq_true, List.cons.injEq]
    rw [eqv_iff h1.1 h2.1, eqvL_iff h1.2 h2.2]
end

/-- data that == takes: no flag within, at most n deep -/
def Okp (n : Nat) (d : D) : Prop := ∃ p, d.py = some p ∧ nbP p = true ∧ p.canLay0 = true ∧ p.depth ≤ n
def OkpL (n : Nat) (ds : List D) : Prop := ∃ p, D.pyL ds = some p ∧ nbL p = true ∧ PyData.canLayAll0 p = true ∧ PyData.depthAll p ≤ n
theorem okp_non {n : Nat} : Okp n .non := ⟨_, rfl, rfl, rfl, Nat.zero_le _⟩
theorem okp_int {n : Nat} {i : Int} : Okp n (.int i) := ⟨_, rfl, rfl, rfl, Nat.zero_le _⟩
theorem okp_str {n : Nat} {x : Str} (h : PyData.strOk x = true) : Okp n (.str x) := ⟨_, rfl, rfl, h, Nat.zero_le _⟩
theorem okpL_nil {n : Nat} : OkpL n [] := ⟨[], by simp [D.pyL], rfl, rfl, Nat.zero_le _⟩
theorem okpL_cons {n : Nat} {d : D} {ds : List D} (h : Okp n d) (hs : OkpL n ds) : OkpL n (d :: ds) := by
  obtain ⟨p, e1, e2, e3, e4⟩ := h
  obtain ⟨q, f1, f2, f3, f4⟩ := hs
  exact ⟨p :: q, by simp [D.pyL, e1, f1], by simp [nbL, e2, f2], by simp [PyData.canLayAll0, e3, f3], by simp only [PyData.depthAll]; omega⟩
theorem okpL_of {n : Nat} : ∀ {ds : List D}, (∀ d ∈ ds, Okp n d) → OkpL n ds
  | [], _ => okpL_nil
  | d :: ds, h => okpL_cons (h d List.mem_cons_self) (okpL_of fun x hx => h x (List.mem_cons_of_mem _ hx))
theorem okp_lst {n : Nat} {o : Bool} {ds : List D} (h : OkpL n ds) : Okp (n + 1) (.node o .lst ds) := by
  obtain ⟨p, e1, e2, e3, e4⟩ := h
  exact ⟨.list p, by simp [D.py, e1], by simpa [nbP] using e2, by simpa [PyData.canLay0] using e3, by simp only [PyData.depth]; omega⟩
theorem okp_tup {n : Nat} {o : Bool} {ds : List D} (h : OkpL n ds) : Okp (n + 1) (.node o .tup ds) := by
  obtain ⟨p, e1, e2, e3, e4⟩ := h
  exact ⟨.tuple p, by simp [D.py, e1], by simpa [nbP] using e2, by simpa [PyData.canLay0] using e3, by simp only [PyData.depth]; omega⟩
theorem okp_map {α : Type} {n : Nat} {e : α → D} {l : List α} (h : ∀ x ∈ l, Okp n (e x)) : OkpL n (l.map e) := okpL_of fun d hd => by
  obtain ⟨x, hx, rfl⟩ := List.mem_map.mp hd
  exact h x hx
theorem Okp.mono {n m : Nat} {d : D} (h : Okp n d) (hm : n ≤ m) : Okp m d := by
  obtain ⟨p, e1, e2, e3, e4⟩ := h
  exact ⟨p, e1, e2, e3, Nat.le_trans e4 hm⟩
mutual
theorem py_frz : ∀ {d e : D} {p : PyData}, d.py = some p → e.py = some p → d.frz = e.frz
  | .leaf s, .leaf t, p, h1, h2 => by cases s <;> cases t <;> simp [D.py] at h1 h2 <;> subst h1 <;> simp at h2 <;> first | rfl | (subst h2; rfl)
  | .leaf s, .node o k ds, p, h1, h2 => by cases s <;> cases k <;> simp [D.py] at h1 h2 <;> subst h1 <;> simp at h2
  | .node o k ds, .leaf s, p, h1, h2 => by cases s <;> cases k <;> simp [D.py] at h1 h2 <;> subst h2 <;> simp at h1
  | .node o k ds, .node o' k' es, p, h1, h2 => by
    cases k <;> cases k' <;> simp [D.py] at h1 h2 <;> (obtain ⟨q, f1, rfl⟩ := h1) <;> simp at h2 <;> simp only [frz_node] <;> rw [pyL_frz f1 h2]
theorem pyL_frz : ∀ {d e : List D} {p : List PyData}, D.pyL d = some p → D.pyL e = some p → D.frzL d = D.frzL e
  | [], [], _, _, _ => rfl
  | [], y :: ys, p, h1, h2 => by
    simp only [D.pyL] at h1 h2
    cases h1
    cases e1 : y.py <;> cases e2 : D.pyL ys <;> simp [e1, e2] at h2
  | x :: xs, [], p, h1, h2 => by
    simp only [D.pyL] at h1 h2
    cases h2
    cases e1 : x.py <;> cases e2 : D.pyL xs <;> simp [e1, e2] at h1
  | x :: xs, y :: ys, p, h1, h2 => by
    simp only [D.pyL] at h1 h2
    cases e1 : x.py with
    | none => simp [e1] at h1
    | some a =>
      cases e2 : D.pyL xs with
      | none => simp [e1, e2] at h1
      | some as =>
        cases e3 : y.py with
        | none => simp [e3] at h2
        | some b =>
          cases e4 : D.pyL ys with
          | none => simp [e3, e4] at h2
          | some bs =>
            simp [e1, e2] at h1
            simp [e3, e4] at h2
            subst h1
            simp at h2
            obtain ⟨rfl, rfl⟩ := h2
            simp only [frzL_cons]
            rw [py_frz e1 e3, pyL_frz e2 e4]
end
mutual
theorem frz_py : ∀ {d e : D}, d.frz = e.frz → d.py = e.py
  | .leaf s, .leaf t, h => by simp at h; rw [h]
  | .leaf s, .node o k ds, h => by simp at h
  | .node o k ds, .leaf s, h => by simp at h
  | .node o k ds, .node o' k' es, h => by
    simp at h
    obtain ⟨rfl, h⟩ := h
    cases k <;> simp only [D.py] <;> rw [frzL_py h]
theorem frzL_py : ∀ {d e : List D}, D.frzL d = D.frzL e → D.pyL d = D.pyL e
  | [], [], _ => rfl
  | [], y :: ys, h => by simp at h
  | x :: xs, [], h => by simp at h
  | x :: xs, y :: ys, h => by
    simp at h
    simp only [D.pyL]
    rw [frz_py h.1, frzL_py h.2]
end
theorem eqPy_ok {n m : Nat} {d e : D} (hd : Okp n d) (he : Okp m e) {P : Prop} [Decidable P] (h : d.frz = e.frz ↔ P) (hn : n ≤ 64 := by decide) (hm : m ≤ 64 := by decide) : eqPy d e = some (decide P) := by
  obtain ⟨p, e1, e2, e3, e4⟩ := hd
  obtain ⟨q, f1, f2, f3, f4⟩ := he
  unfold eqPy
  rw [e1, f1]
  have s1 : SeqAt.shaped p = true := by unfold SeqAt.shaped; rw [e3]; simp; omega
  have s2 : SeqAt.shaped q = true := by unfold SeqAt.shaped; rw [f3]; simp; omega
  show (if SeqAt.shaped p = true ∧ SeqAt.shaped q = true then some (PyData.eqv p q) else none) = _
  rw [if_pos ⟨s1, s2⟩]
  refine congrArg some ?_
  have k : PyData.eqv p q = true ↔ P := by
    rw [eqv_iff e2 f2, ← h]
    refine ⟨fun z => py_frz e1 (z ▸ f1), fun z => ?_⟩
    have := frz_py z
    rw [e1, f1] at this
    exact Option.some.inj this
  by_cases hP : P
  · rw [decide_eq_true hP, k.mpr hP]
  · rw [decide_eq_false hP]
    cases hh : PyData.eqv p q
    · rfl
    · exact absurd (k.mp hh) hP
theorem fEq_ok {n m : Nat} {d e : D} (hd : Okp n d) (he : Okp m e) {P : Prop} [Decidable P] (h : d.frz = e.frz ↔ P) (hn : n ≤ 64 := by decide) (hm : m ≤ 64 := by decide) : fEq d e = some (.bl (decide P)) := by
  unfold fEq; rw [eqPy_ok hd he h hn hm]; rfl
theorem fNe_ok {n m : Nat} {d e : D} (hd : Okp n d) (he : Okp m e) {P : Prop} [Decidable P] (h : d.frz = e.frz ↔ P) (hn : n ≤ 64 := by decide) (hm : m ≤ 64 := by decide) : fNe d e = some (.bl (!decide P)) := by
  unfold fNe; rw [eqPy_ok hd he h hn hm]; rfl
/-- x in l -/
theorem inD_ok {α : Type} {n m : Nat} {d : D} {o : Bool} {e : α → D} {l : List α} (hd : Okp n d) (hl : ∀ x ∈ l, Okp m (e x)) {P : α → Prop} [DecidablePred P] (h : ∀ x ∈ l, (e x).frz = d.frz ↔ P x) (hd1 : ∀ z : Str, d = .str z → True) (hn : n ≤ 64 := by decide) (hm : m < 64 := by decide) :
    inD d (.node o .lst (l.map e)) = some (l.any fun x => decide (P x)) := by
  obtain ⟨q, e1, e2, e3, e4⟩ := hd
  obtain ⟨qs, f1, f2, f3, f4⟩ := okp_map hl
  have s1 : SeqAt.shaped q = true := by unfold SeqAt.shaped; rw [e3]; simp; omega
  have s2 : SeqAt.shaped (.list qs) = true := by unfold SeqAt.shaped; rw [show (PyData.list qs).canLay0 = true from by simp [PyData.canLay0, f3], show (PyData.list qs).depth = PyData.depthAll qs + 1 from by simp [PyData.depth]]; simp; omega
  have main : (match d.py, D.pyL (l.map e) with
    | some q, some qs => if SeqAt.shaped q = true ∧ SeqAt.shaped (.list qs) = true then some (qs.any fun z => PyData.eqv z q) else none
    | _, _ => none) = some (l.any fun x => decide (P x)) := by
    rw [e1, f1]
    show (if SeqAt.shaped q = true ∧ SeqAt.shaped (.list qs) = true then _ else _) = _
    rw [if_pos ⟨s1, s2⟩]
    refine congrArg some ?_
    clear s2 f3 f4
    induction l generalizing qs with
    | nil => simp [D.pyL] at f1; subst f1; rfl
    | cons x l ih =>
      rw [List.map_cons] at f1
      simp only [D.pyL] at f1
      cases g1 : (e x).py with
      | none => rw [g1] at f1; cases f1
      | some a =>
        rw [g1] at f1
        cases g2 : D.pyL (l.map e) with
        | none => rw [g2] at f1; cases f1
        | some as =>
          rw [g2] at f1
          cases f1
          simp only [nbL, Bool.and_eq_true] at f2
          simp only [List.any_cons]
          rw [ih (fun y hy => hl y (List.mem_cons_of_mem _ hy)) (fun y hy => h y (List.mem_cons_of_mem _ hy)) as g2 f2.2]
          congr 1
          have k : PyData.eqv a q = true ↔ P x := by
            rw [eqv_iff f2.1 e2, ← h x List.mem_cons_self]
            refine ⟨fun z => py_frz g1 (z ▸ e1), fun z => ?_⟩
            have := frz_py z
            rw [g1, e1] at this
            exact Option.some.inj this
          by_cases hP : P x
          · rw [decide_eq_true hP, k.mpr hP]
          · rw [decide_eq_false hP]
            cases hh : PyData.eqv a q
            · rfl
            · exact absurd (k.mp hh) hP
  unfold inD
  cases d with
  | node => exact main
  | leaf s => cases s <;> exact main
/-! ### texts: lists of code points -/
abbrev st (l : List Nat) : Str := ⟨l.toArray⟩
abbrev D.st (l : List Nat) : D := .str (VL.st l)
theorem st_inj {a b : List Nat} : st a = st b ↔ a = b := ⟨fun h => SX.S_inj h, fun h => by rw [h]⟩
theorem Dst_inj {a b : List Nat} : D.st a = D.st b ↔ a = b := ⟨fun h => by injection h with h; injection h with h; exact SX.S_inj h, fun h => by rw [h]⟩
theorem st_cps (l : List Nat) : (st l).cps.toList = l := nr rfl
theorem st_len (l : List Nat) : (st l).length = l.length := SX.S_len l
theorem st_cat (a b : List Nat) : st a ++ st b = st (a ++ b) := SX.S_cat a b
theorem strOk_st {l : List Nat} (h : ∀ c ∈ l, c < 1114112) : PyData.strOk (st l) = true := by
  unfold PyData.strOk
  rw [← Array.all_toList, List.all_eq_true]
  intro c hc
  exact decide_eq_true (h c hc)
theorem fAdd_st {a b : List Nat} (h : a.length + b.length ≤ sizeLine) : fAdd (.st a) (.st b) = some (.st (a ++ b)) := by
  show (if (st a).length + (st b).length ≤ sizeLine then some (D.str (st a ++ st b)) else none) = _
  rw [if_pos (by rw [st_len, st_len]; exact h), st_cat]
theorem fLen_st {a : List Nat} (h : a.length ≤ sizeLine) : fLen [.st a] = some (.int a.length) := by
  show (if (st a).length ≤ sizeLine then some (D.int (st a).length) else none) = _
  rw [if_pos (by rw [st_len]; exact h), st_len]
theorem fIx_st {a : List Nat} {i c : Nat} (h : a.length ≤ sizeLine) (hc : a[i]? = some c) : fIx (.st a) (.int i) = some (.st [c]) := by
  show (if (st a).length ≤ sizeLine then (atI (st a).cps.toList (i : Int)).map (fun c => D.str ⟨#[c]⟩) else none) = _
  rw [if_pos (by rw [st_len]; exact h), st_cps, atI_nat (List.getElem?_eq_some_iff.mp hc).1, hc]
  rfl
theorem fLt_st (a b : List Nat) : fLt (.st a) (.st b) = some (.bl (decide (a < b))) := nr rfl
theorem fLe_st (a b : List Nat) : fLe (.st a) (.st b) = some (.bl (!decide (b < a))) := nr rfl
def cutN (l : List Nat) (lo hi : Option Int) : List Nat := (l.drop (HT.sIx l.length 0 lo)).take (HT.sIx l.length l.length hi - HT.sIx l.length 0 lo)
theorem fSl_st {a : List Nat} (lo hi : Option Int) (h : a.length ≤ sizeLine) : fSl (.st a) lo hi = some (.st (cutN a lo hi)) := by
  show (if (st a).length ≤ sizeLine then some (D.str (cutS (st a) lo hi)) else none) = _
  rw [if_pos (by rw [st_len]; exact h)]
  unfold cutS cutN
  rw [st_len, st_cps]
theorem fIn_sign (c : Nat) (z : List Nat) : fIn (.st [c]) (.st z) = some (.bl (decide (c ∈ z))) := nr rfl
theorem fNotIn_sign (c : Nat) (z : List Nat) : fNotIn (.st [c]) (.st z) = some (.bl (!decide (c ∈ z))) := nr rfl
theorem joinNil : ∀ ls : List (List Nat), TL.joinL [] ls = ls.flatten
  | [] => rfl
  | [p] => by simp [TL.joinL]
  | p :: q :: r => by
    show p ++ ([] ++ TL.joinL [] (q :: r)) = _
    rw [joinNil (q :: r)]
    simp
theorem strs?_st : ∀ ls : List (List Nat), strs? (ls.map D.st) = some (ls.map st)
  | [] => rfl
  | l :: ls => by
    show (str? (D.st l)).bind (fun x => (strs? (ls.map D.st)).map (x :: ·)) = _
    rw [strs?_st ls]; rfl
theorem joinD_st {o : Bool} {ls : List (List Nat)} (h : (ls.map List.length).sum ≤ 16777216) : joinD (st []) (.node o .lst (ls.map D.st)) = some (.st ls.flatten) := by
  show (strs? (ls.map D.st)).bind _ = _
  rw [strs?_st]
  have e1 : ((ls.map st).map (·.length)) = ls.map List.length := by rw [List.map_map]; exact List.map_congr_left fun l _ => st_len l
  show (if ((ls.map st).map (·.length)).sum + (ls.map st).length * 0 ≤ 16777216 then some (D.str (Txt.join (st []) (ls.map st))) else none) = _
  rw [e1, Nat.mul_zero, Nat.add_zero, if_pos h]
  have e2 := SX.join_S [] ls
  rw [joinNil] at e2
  exact congrArg (fun x => some (D.str x)) e2
@[simp] theorem frzL_st (ls : List (List Nat)) : D.frzL (ls.map D.st) = ls.map D.st := by
  rw [frzL_map, List.map_map]
  exact List.map_congr_left fun n _ => frz_leaf _
theorem shr_map {α : Type} {e : α → D} {l : List α} (h : ∀ x ∈ l, (e x).shr = true) : (l.map e).all D.shr = true := by
  rw [List.all_map, List.all_eq_true]
  exact h
theorem frzL_mapid {α : Type} {e : α → D} {l : List α} (h : ∀ x ∈ l, (e x).frz = e x) : D.frzL (l.map e) = l.map e := by
  rw [frzL_map, List.map_map]
  exact List.map_congr_left h
/-! ### lists of any items -/
theorem fListOf_lst {o : Bool} {ds : List D} (h : ds.all D.shr = true) : fListOf [.node o .lst ds] = some (.lst true ds) := if_pos h
theorem fListOf_tup {o : Bool} {ds : List D} (h : ds.all D.shr = true) : fListOf [.node o .tup ds] = some (.lst true ds) := if_pos h
theorem fTupleOf_lst {o : Bool} {ds : List D} (h : ds.all D.shr = true) : fTupleOf [.node o .lst ds] = some (.tup false ds) := if_pos h
theorem fAdd_lst {o o' : Bool} {a b : List D} (h : a.length + b.length ≤ sizeLine) (ha : a.all D.shr = true) (hb : b.all D.shr = true) : fAdd (.node o .lst a) (.node o' .lst b) = some (.lst true (a ++ b)) := if_pos ⟨h, ha, hb⟩
theorem cutD_map {α : Type} {e : α → D} (l : List α) (lo hi : Option Int) : cutD (l.map e) lo hi = ((l.drop (HT.sIx l.length 0 lo)).take (HT.sIx l.length l.length hi - HT.sIx l.length 0 lo)).map e := by
  unfold cutD
  rw [List.length_map, List.map_take, List.map_drop]
def cutA {α : Type} (l : List α) (lo hi : Option Int) : List α := (l.drop (HT.sIx l.length 0 lo)).take (HT.sIx l.length l.length hi - HT.sIx l.length 0 lo)
theorem fSl_map {α : Type} {e : α → D} {o : Bool} (l : List α) (lo hi : Option Int) (h : ∀ x ∈ l, (e x).shr = true) : fSl (.node o .lst (l.map e)) lo hi = some (.lst true ((cutA l lo hi).map e)) := by
  show (if (cutD (l.map e) lo hi).all D.shr = true then _ else _) = _
  rw [cutD_map, if_pos (shr_map fun x hx => h x (List.mem_of_mem_drop (List.mem_of_mem_take hx)))]
  rfl
theorem cutA_upto {α : Type} (l : List α) (k : Nat) : cutA l none (some (k : Int)) = l.take k := by
  unfold cutA
  rw [HT.sIx_none, HT.sIx_nat, List.drop_zero, Nat.sub_zero]
  by_cases h : k ≤ l.length
  · rw [Nat.min_eq_left h]
  · rw [Nat.min_eq_right (by omega), List.take_of_length_le (Nat.le_refl _), List.take_of_length_le (by omega)]
theorem cutA_less {α : Type} (l : List α) (k : Nat) (hk : 0 < k) : cutA l none (some (-(k : Int))) = l.take (l.length - k) := by
  unfold cutA
  rw [HT.sIx_none, sIx_back _ _ _ hk, List.drop_zero, Nat.sub_zero]
theorem cutA_last {α : Type} (l : List α) (k : Nat) (hk : 0 < k) : cutA l (some (-(k : Int))) none = l.drop (l.length - k) := by
  unfold cutA
  rw [sIx_back _ _ _ hk, HT.sIx_none]
  exact List.take_of_length_le (by rw [List.length_drop]; exact Nat.le_refl _)
theorem cutA_from {α : Type} (l : List α) (k : Nat) : cutA l (some (k : Int)) none = l.drop k := by
  unfold cutA
  rw [HT.sIx_nat, HT.sIx_none, List.take_of_length_le (by rw [List.length_drop]; exact Nat.le_refl _)]
  by_cases h : k ≤ l.length
  · rw [Nat.min_eq_left h]
  · rw [Nat.min_eq_right (by omega), List.drop_of_length_le (Nat.le_refl _), List.drop_of_length_le (by omega)]
theorem cutN_eq (l : List Nat) (lo hi : Option Int) : cutN l lo hi = cutA l lo hi := nr rfl
theorem fIx_map {α : Type} {e : α → D} {o : Bool} {l : List α} {i : Nat} {x : α} (h : l[i]? = some x) : fIx (.node o .lst (l.map e)) (.int i) = some (e x) := by
  rw [fIx_lst, atI_nat (by rw [List.length_map]; exact (List.getElem?_eq_some_iff.mp h).1), List.getElem?_map, h]; rfl
/-! ### written texts -/
theorem ofString_inj {a b : String} (h : Str.ofString a = Str.ofString b) : a = b := by
  rw [Str.ofString_eq_toList, Str.ofString_eq_toList] at h
  have h := congrArg (fun x : Str => x.cps.toList) h
  have key : ∀ l m : List Char, l.map Char.toNat = m.map Char.toNat → l = m := by
    intro l
    induction l with
    | nil => intro m h; cases m with | nil => rfl | cons _ _ => simp at h
    | cons x l ih => intro m h; cases m with
      | nil => simp at h
      | cons y m =>
        simp only [List.map_cons, List.cons.injEq] at h
        rw [ih m h.2, Char.ext (UInt32.toNat_inj.mp h.1)]
  have e := key _ _ h
  exact String.toList_inj.mp e
theorem strOk_lit (a : String) : PyData.strOk (Str.ofString a) = true := by
  rw [Str.ofString_eq_toList]
  unfold PyData.strOk
  rw [← Array.all_toList, List.all_eq_true]
  intro c hc
  obtain ⟨x, _, rfl⟩ := List.mem_map.mp hc
  have := x.valid
  refine decide_eq_true ?_
  have h2 : x.toNat.isValidChar := x.valid
  rcases h2 with h2 | h2
  · exact Nat.lt_trans h2 (by decide)
  · exact h2.2
theorem okp_lit {n : Nat} {a : String} : Okp n (.str (Str.ofString a)) := okp_str (strOk_lit a)
theorem fEq_lit {a b : String} : fEq (.str (Str.ofString a)) (.str (Str.ofString b)) = some (.bl (decide (a = b))) :=
  fEq_ok (n := 0) (m := 0) okp_lit okp_lit (by
    rw [frz_leaf, frz_leaf]
    exact ⟨fun h => by injection h with h; injection h with h; exact ofString_inj h, fun h => by rw [h]⟩)
theorem fNe_lit {a b : String} : fNe (.str (Str.ofString a)) (.str (Str.ofString b)) = some (.bl (!decide (a = b))) :=
  fNe_ok (n := 0) (m := 0) okp_lit okp_lit (by
    rw [frz_leaf, frz_leaf]
    exact ⟨fun h => by injection h with h; injection h with h; exact ofString_inj h, fun h => by rw [h]⟩)
theorem fEq_self {n m : Nat} {d e : D} (hd : Okp n d) (he : Okp m e) (h : d.frz = e.frz) (hn : n ≤ 64 := by decide) (hm : m ≤ 64 := by decide) : fEq d e = some (.bl true) := by
  rw [fEq_ok hd he (P := True) ⟨fun _ => trivial, fun _ => h⟩ hn hm]; rfl
theorem fNe_self {n m : Nat} {d e : D} (hd : Okp n d) (he : Okp m e) (h : d.frz = e.frz) (hn : n ≤ 64 := by decide) (hm : m ≤ 64 := by decide) : fNe d e = some (.bl false) := by
  rw [fNe_ok hd he (P := True) ⟨fun _ => trivial, fun _ => h⟩ hn hm]; rfl
theorem fIs_non (d : D) : fIs d .non = some (.bl (isNon d)) := nr rfl
theorem fIsNot_non (d : D) : fIsNot d .non = some (.bl (!isNon d)) := nr rfl
theorem isNon_non : isNon .non = true := nr rfl
theorem isNon_int (i : Int) : isNon (.int i) = false := nr rfl
theorem isNon_bl (i : Bool) : isNon (.bl i) = false := nr rfl
theorem isNon_str (i : Str) : isNon (.str i) = false := nr rfl
theorem isNon_node (o : Bool) (k : Kn) (ds : List D) : isNon (.node o k ds) = false := nr rfl
/-! ### types -/
theorem isi_ii : isiB "int" "int" = true := by decide +kernel
theorem isi_ib : isiB "int" "bool" = true := by decide +kernel
theorem isi_is : isiB "int" "str" = false := by decide +kernel
theorem isi_in : isiB "int" "NoneType" = false := by decide +kernel
theorem isi_il : isiB "int" "list" = false := by decide +kernel
theorem isi_it : isiB "int" "tuple" = false := by decide +kernel
theorem isi_bi : isiB "bool" "int" = false := by decide +kernel
theorem isi_bb : isiB "bool" "bool" = true := by decide +kernel
theorem isi_bs : isiB "bool" "str" = false := by decide +kernel
theorem isi_bn : isiB "bool" "NoneType" = false := by decide +kernel
theorem isi_bL : isiB "bool" "list" = false := by decide +kernel
theorem isi_bt : isiB "bool" "tuple" = false := by decide +kernel
theorem isi_si : isiB "str" "int" = false := by decide +kernel
theorem isi_sb : isiB "str" "bool" = false := by decide +kernel
theorem isi_ss : isiB "str" "str" = true := by decide +kernel
theorem isi_sn : isiB "str" "NoneType" = false := by decide +kernel
theorem isi_sl : isiB "str" "list" = false := by decide +kernel
theorem isi_st : isiB "str" "tuple" = false := by decide +kernel
theorem isi_li : isiB "list" "int" = false := by decide +kernel
theorem isi_lb : isiB "list" "bool" = false := by decide +kernel
theorem isi_ls : isiB "list" "str" = false := by decide +kernel
theorem isi_ln : isiB "list" "NoneType" = false := by decide +kernel
theorem isi_ll : isiB "list" "list" = true := by decide +kernel
theorem isi_lt : isiB "list" "tuple" = false := by decide +kernel
theorem isi_ti : isiB "tuple" "int" = false := by decide +kernel
theorem isi_tb : isiB "tuple" "bool" = false := by decide +kernel
theorem isi_ts : isiB "tuple" "str" = false := by decide +kernel
theorem isi_tn : isiB "tuple" "NoneType" = false := by decide +kernel
theorem isi_tl : isiB "tuple" "list" = false := by decide +kernel
theorem isi_tt : isiB "tuple" "tuple" = true := by decide +kernel
theorem tyD_non : tyD .non = "NoneType" := nr rfl
theorem tyD_bl (b : Bool) : tyD (.bl b) = "bool" := nr rfl
theorem tyD_int (i : Int) : tyD (.int i) = "int" := nr rfl
theorem tyD_str (i : Str) : tyD (.str i) = "str" := nr rfl
theorem tyD_lst (o : Bool) (ds : List D) : tyD (.lst o ds) = "list" := nr rfl
theorem tyD_tup (o : Bool) (ds : List D) : tyD (.tup o ds) = "tuple" := nr rfl
theorem noIns_leaf (s : Sc) : noIns (.leaf s) = true := nr rfl
theorem noIns_lst (o : Bool) (ds : List D) : noIns (.lst o ds) = true := nr rfl
theorem noIns_tup (o : Bool) (ds : List D) : noIns (.tup o ds) = true := nr rfl
/-! ### places of a written list -/
theorem fIx0 {o : Bool} {a : D} {r : List D} : fIx (.node o .lst (a :: r)) (.int 0) = some a := by rw [fIx_lst]; exact (atI_nat (l := a :: r) (k := 0) (by simp)).trans rfl
theorem fIx1 {o : Bool} {a b : D} {r : List D} : fIx (.node o .lst (a :: b :: r)) (.int 1) = some b := by rw [fIx_lst]; exact (atI_nat (l := a :: b :: r) (k := 1) (by simp)).trans rfl
theorem fIx2 {o : Bool} {a b c : D} {r : List D} : fIx (.node o .lst (a :: b :: c :: r)) (.int 2) = some c := by rw [fIx_lst]; exact (atI_nat (l := a :: b :: c :: r) (k := 2) (by simp)).trans rfl
theorem fIx3 {o : Bool} {a b c d : D} {r : List D} : fIx (.node o .lst (a :: b :: c :: d :: r)) (.int 3) = some d := by rw [fIx_lst]; exact (atI_nat (l := a :: b :: c :: d :: r) (k := 3) (by simp)).trans rfl
theorem fIx4 {o : Bool} {a b c d e : D} {r : List D} : fIx (.node o .lst (a :: b :: c :: d :: e :: r)) (.int 4) = some e := by rw [fIx_lst]; exact (atI_nat (l := a :: b :: c :: d :: e :: r) (k := 4) (by simp)).trans rfl
theorem fIx5 {o : Bool} {a b c d e f : D} {r : List D} : fIx (.node o .lst (a :: b :: c :: d :: e :: f :: r)) (.int 5) = some f := by rw [fIx_lst]; exact (atI_nat (l := a :: b :: c :: d :: e :: f :: r) (k := 5) (by simp)).trans rfl
theorem fIt0 {o : Bool} {a : D} {r : List D} : fIx (.node o .tup (a :: r)) (.int 0) = some a := by rw [fIx_tup]; exact (atI_nat (l := a :: r) (k := 0) (by simp)).trans rfl
theorem fIt1 {o : Bool} {a b : D} {r : List D} : fIx (.node o .tup (a :: b :: r)) (.int 1) = some b := by rw [fIx_tup]; exact (atI_nat (l := a :: b :: r) (k := 1) (by simp)).trans rfl
theorem fIt2 {o : Bool} {a b c : D} {r : List D} : fIx (.node o .tup (a :: b :: c :: r)) (.int 2) = some c := by rw [fIx_tup]; exact (atI_nat (l := a :: b :: c :: r) (k := 2) (by simp)).trans rfl
theorem fIt3 {o : Bool} {a b c d : D} {r : List D} : fIx (.node o .tup (a :: b :: c :: d :: r)) (.int 3) = some d := by rw [fIx_tup]; exact (atI_nat (l := a :: b :: c :: d :: r) (k := 3) (by simp)).trans rfl
theorem fIt4 {o : Bool} {a b c d e : D} {r : List D} : fIx (.node o .tup (a :: b :: c :: d :: e :: r)) (.int 4) = some e := by rw [fIx_tup]; exact (atI_nat (l := a :: b :: c :: d :: e :: r) (k := 4) (by simp)).trans rfl
theorem fIt5 {o : Bool} {a b c d e f : D} {r : List D} : fIx (.node o .tup (a :: b :: c :: d :: e :: f :: r)) (.int 5) = some f := by rw [fIx_tup]; exact (atI_nat (l := a :: b :: c :: d :: e :: f :: r) (k := 5) (by simp)).trans rfl
theorem rangeL_eq {lo : Int} {n : Nat} : rangeL lo n = (List.range n).map fun i : Nat => D.int (lo + (i : Nat)) := nr rfl
/-- an item of a written list, whatever the place -/
theorem fIx_nat {o : Bool} {ds : List D} {i : Nat} {d : D} (h : ds[i]? = some d) : fIx (.node o .lst ds) (.int i) = some d := by rw [fIx_lst, atI_nat (List.getElem?_eq_some_iff.mp h).1, h]
/-- a number below n -/
theorem nat_of {i : Int} {n : Nat} (h : 0 ≤ i) (h2 : i < n) : ∃ m : Nat, i = m ∧ m < n := ⟨i.toNat, (Int.toNat_of_nonneg h).symm, by omega⟩
theorem mod_of (i : Int) (n : Nat) (h : 0 < n) : ∃ m : Nat, i % (n : Int) = m ∧ m < n := nat_of (Int.emod_nonneg _ (by omega)) (Int.emod_lt_of_pos _ (by omega))
/-! ### a, b = .. ; x[k] = .. -/
section
variable {r : VS} {ok : Fl → VS → Prop} {ex : String → VS → Prop}
def gasK (m : Gts) (ok : Fl → VS → Prop) (ds : List D) (r : VS) : Prop := match m ds r with | some r' => ok .nx r' | none => False
theorem asgK_tup {n : Nat} {m : Gts} {o : Bool} {ds : List D} : asgK (gTupM n m) ok (.node o .tup ds) r = (ds.length = n ∧ gasK m ok ds r) := by
  unfold asgK gTupM gasK tup?
  by_cases h : ds.length = n
  · simp only [h, if_true, Option.bind_some, true_and]
    all_goals (cases m ds r <;> rfl)
  · simp only [h, if_false, Option.bind_none, false_and]
theorem gasK_nil : gasK gNilM ok [] r = ok .nx r := nr rfl
theorem gasK_cons {i : Nat} {m : Gts} {d : D} {ds : List D} : gasK (gConsM (gPut i) m) ok (d :: ds) r = (i < r.length ∧ gasK m ok ds (r.set i (some d))) := by
  unfold gasK gConsM gPut
  by_cases h : i < r.length
  · simp only [h, if_true, Option.bind_some, true_and]
  · simp only [h, if_false, Option.bind_none, false_and]
theorem gTupM_some {n : Nat} {m : Gts} {o : Bool} {ds : List D} (h : ds.length = n) : gTupM n m (.node o .tup ds) r = m ds r := by
  unfold gTupM tup?
  simp only [h, if_true, Option.bind_some]
def setR (i : Nat) (d : D) (ok : Fl → VS → Prop) (kd : D) (r : VS) : Prop := match ownL? i r, kd with
  | some ds, .leaf (.int j) => (match ixN ds.length j with | some n => ok .nx (r.set i (some (.lst true (ds.set n d)))) | none => False)
  | _, _ => False
def setL (i : Nat) (k : M D) (ok : Fl → VS → Prop) (ex : String → VS → Prop) (d : D) (r : VS) : Prop := isL i r = true ∧ (k r).sat (setR i d ok) ex
theorem sat_setIx {i : Nat} {a k : M D} : (mSetIx i a k r).sat ok ex = (a r).sat (setL i k ok ex) ex := by
  unfold mSetIx; rw [sat_bind_eq]; congr 1; funext d r
  rw [sat_bind_eq]
  unfold mIsL setL
  cases hL : isL i r with
  | false => exact propext ⟨fun z => z.elim, fun z => nomatch z.1⟩
  | true =>
    have key : ∀ kd r, ((M.bind (M.opt (int? kd)) fun j => setIxR i d j) r).sat ok ex = setR i d ok kd r := fun kd r => by
      rw [sat_bind_eq, sat_opt_eq]
      unfold setR setIxR
      cases kd with
      | node => cases ownL? i r <;> rfl
      | leaf s =>
        cases s with
        | int j =>
          show ((match ownL? i r with | some ds => _ | none => _ : R Fl)).sat ok ex = _
          cases ownL? i r with
          | none => rfl
          | some ds => show ((match ixN ds.length j with | some n => _ | none => _ : R Fl)).sat ok ex = _; dsimp only; cases ixN ds.length j <;> rfl
        | _ => cases ownL? i r <;> rfl
    show ((M.bind k fun kd => M.bind (M.opt (int? kd)) fun j => setIxR i d j) r).sat ok ex = (true = true ∧ (k r).sat (setR i d ok) ex)
    rw [sat_bind_eq]
    refine propext ⟨fun z => ⟨rfl, ?_⟩, fun z => ?_⟩
    · exact (congrArg (fun K => (k r).sat K ex) (funext fun kd => funext fun r => key kd r)).mp z
    · exact (congrArg (fun K => (k r).sat K ex) (funext fun kd => funext fun r => key kd r)).mpr z.2
theorem setL_eq {i : Nat} {k : M D} {d : D} : setL i k ok ex d r = (isL i r = true ∧ (k r).sat (setR i d ok) ex) := nr rfl
theorem setR_int {i : Nat} {d : D} {j : Int} : setR i d ok (.int j) r = match ownL? i r with | some ds => (match ixN ds.length j with | some n => ok .nx (r.set i (some (.lst true (ds.set n d)))) | none => False) | none => False := by
  unfold setR; cases ownL? i r <;> rfl
end
def extK (i : Nat) (K : D → VS → Prop) (d : D) (r : VS) : Prop := match d, ownL? i r with
  | .node true .lst es, some ds => ds.length + es.length ≤ sizeLine ∧ K .non (r.set i (some (.lst true (ds ++ es))))
  | _, _ => False
theorem sat_extend {r : VS} {ex : String → VS → Prop} {K : D → VS → Prop} {i : Nat} {a : M D} : (mExtend i a r).sat K ex = (isL i r = true ∧ (a r).sat (extK i K) ex) := by
  unfold mExtend
  cases isL i r with
  | false => exact propext ⟨fun z => z.elim, fun z => nomatch z.1⟩
  | true =>
    rw [if_pos rfl, sat_bind_eq]
    have key : (fun (d : D) (r' : VS) => ((match d, ownL? i r' with | .node true .lst es, some ds => if ds.length + es.length ≤ sizeLine then R.ok D.non (r'.set i (some (.lst true (ds ++ es)))) else .no | _, _ => .no : R D)).sat K ex) = extK i K := by
      funext d r'
      unfold extK
      split
      · rename_i es ds e
        by_cases hz : ds.length + es.length ≤ sizeLine
        · rw [if_pos hz]; exact propext ⟨fun z => ⟨hz, z⟩, fun z => z.2⟩
        · rw [if_neg hz]; exact propext ⟨fun z => z.elim, fun z => (hz z.1).elim⟩
      · rfl
    exact propext ⟨fun z => ⟨rfl, (congrArg (fun Q => (a r).sat Q ex) key).mp z⟩, fun z => (congrArg (fun Q => (a r).sat Q ex) key).mpr z.2⟩
theorem extK_own {r : VS} {K : D → VS → Prop} {i : Nat} {es : List D} : extK i K (.node true .lst es) r = match ownL? i r with | some ds => ds.length + es.length ≤ sizeLine ∧ K .non (r.set i (some (.lst true (ds ++ es)))) | none => False := by
  unfold extK; cases ownL? i r <;> rfl
def m1R (f : Str → D → Option D) (a : Str) (K : D → VS → Prop) (d : D) (r : VS) : Prop := optK (f a d) r K
def m1L (f : Str → D → Option D) (e : M D) (K : D → VS → Prop) (ex : String → VS → Prop) (d : D) (r : VS) : Prop := match d with | .leaf (.str a) => (e r).sat (m1R f a K) ex | _ => False
theorem sat_m1 {r : VS} {ex : String → VS → Prop} {K : D → VS → Prop} {f : Str → D → Option D} {o e : M D} : (mM1 f o e r).sat K ex = (o r).sat (m1L f e K ex) ex := by
  unfold mM1; rw [sat_bind_eq]; congr 1; funext d r; rw [sat_bind_eq, sat_opt_eq]
  cases d with
  | node => rfl
  | leaf s => cases s <;> first | rfl | (show ((M.bind _ _) r).sat K ex = _; rw [sat_bind_eq]; unfold m1L; dsimp only; congr 1; funext y r; exact sat_opt_eq)
theorem m1L_str {r : VS} {ex : String → VS → Prop} {K : D → VS → Prop} {f : Str → D → Option D} {e : M D} {a : Str} : m1L f e K ex (.str a) r = (e r).sat (m1R f a K) ex := nr rfl
theorem m1R_eq {r : VS} {K : D → VS → Prop} {f : Str → D → Option D} {a : Str} {d : D} : m1R f a K d r = optK (f a d) r K := nr rfl
theorem fEq_stt {a b : List Nat} (ha : ∀ c ∈ a, c < 1114112) (hb : ∀ c ∈ b, c < 1114112) : fEq (.st a) (.st b) = some (.bl (decide (a = b))) :=
  fEq_ok (n := 0) (m := 0) (okp_str (strOk_st ha)) (okp_str (strOk_st hb)) (by rw [frz_leaf, frz_leaf]; exact Dst_inj)
theorem fNe_stt {a b : List Nat} (ha : ∀ c ∈ a, c < 1114112) (hb : ∀ c ∈ b, c < 1114112) : fNe (.st a) (.st b) = some (.bl (!decide (a = b))) :=
  fNe_ok (n := 0) (m := 0) (okp_str (strOk_st ha)) (okp_str (strOk_st hb)) (by rw [frz_leaf, frz_leaf]; exact Dst_inj)
theorem cut_mid (l : List Int) (i j : Nat) (h : i ≤ j) (hj : j ≤ l.length) : cutI l (some (i : Int)) (some (j : Int)) = (l.drop i).take (j - i) := by
  unfold cutI
  rw [HT.sIx_nat, HT.sIx_nat, Nat.min_eq_left hj, Nat.min_eq_left (Nat.le_trans h hj)]
/-! ### sizes and products -/
theorem le_size {n : Nat} (h : n ≤ 1000000) : n ≤ sizeLine := Nat.le_trans h (by decide)
theorem lt_size {n : Nat} (h : n < 1000000) : n < sizeLine := Nat.lt_of_lt_of_le h (by decide)
theorem fMul_l {i j : Int} (h1 : -18446744073709551616 < i) (h2 : i < 18446744073709551616) : fMulI (.int i) (.int j) = some (.int (i * j)) := fMul_int i j (.inl ⟨h1, h2⟩)
theorem fMul_r {i j : Int} (h1 : -18446744073709551616 < j) (h2 : j < 18446744073709551616) : fMulI (.int i) (.int j) = some (.int (i * j)) := fMul_int i j (.inr ⟨h1, h2⟩)
theorem pow_10_12 : fPow (.int 10) (.int 12) = some (.int 1000000000000) := (fPow_int _ _ (by decide)).trans rfl
theorem pow_10_15 : fPow (.int 10) (.int 15) = some (.int 1000000000000000) := (fPow_int _ _ (by decide)).trans rfl
theorem pow_10_18 : fPow (.int 10) (.int 18) = some (.int 1000000000000000000) := (fPow_int _ _ (by decide)).trans rfl
theorem pow_10_20 : fPow (.int 10) (.int 20) = some (.int 100000000000000000000) := (fPow_int _ _ (by decide)).trans rfl
theorem pow_10_30 : fPow (.int 10) (.int 30) = some (.int 1000000000000000000000000000000) := (fPow_int _ _ (by decide)).trans rfl
theorem pow_10_60 : fPow (.int 10) (.int 60) = some (.int 1000000000000000000000000000000000000000000000000000000000000) := (fPow_int _ _ (by decide)).trans rfl
theorem pow_2_62 : fPow (.int 2) (.int 62) = some (.int 4611686018427387904) := (fPow_int _ _ (by decide)).trans rfl
theorem pow_2_63 : fPow (.int 2) (.int 63) = some (.int 9223372036854775808) := (fPow_int _ _ (by decide)).trans rfl
theorem pow_2_64 : fPow (.int 2) (.int 64) = some (.int 18446744073709551616) := (fPow_int _ _ (by decide)).trans rfl
theorem bl?_ite {p : Prop} [Decidable p] {a b : D} : (if p then a else b).bl? = if p then a.bl? else b.bl? := by split <;> rfl
end VL

/-! VL22: instances: their fields, methods, making. -/
namespace VL
open PySem PySem.Spec L2

/-! ### a def that is never asked -/
section
variable {T : String → Option Addr} {io : Io} {X : Cx} {W : WX} {p p1 p2 : Bool} {pos : Pos}
theorem qss_no {st : List Stmt} : QSs T io X W st M.no := fun G _ => ⟨fun pins s σ H B I q => by
  obtain ⟨F, r, t, tv, h1, h2⟩ := q
  exact h2.elim⟩
end

/-! ### fields -/
def fldD : List String → List D → String → Option D
  | g :: gs, d :: ds, f => if g = f then some d else fldD gs ds f
  | _, _, _ => none
/-- x.f, x of a class of L -/
def fFld (L : List String) (f : String) : D → Option D
  | .node _ (.ins c fs) ds => if c ∈ L then fldD fs ds f else none
  | _ => none
theorem fldD_lk {K : PySem.W.Frag} {T : String → Option Addr} {F H : Hp} {f : String} : ∀ {fs : List String} {ds : List D} {vs : List V} {d : D}, fldD fs ds f = some d → LkL K T F H ds vs → ∃ v, (((fs.map fun x => Str.ofString x).zip vs).lookup (Str.ofString f)) = some v ∧ Lk K T F H d v
  | [], _, _, _, e, _ => by simp [fldD] at e
  | _ :: _, [], _, _, e, _ => by simp [fldD] at e
  | g :: gs, d0 :: ds, _, d, e, h => by
    cases h with
    | @cons _ v0 _ vs h1 h2 =>
      simp only [fldD] at e
      by_cases z : g = f
      · rw [if_pos z] at e
        cases e
        subst z
        exact ⟨v0, by simp [List.lookup], h1⟩
      · rw [if_neg z] at e
        obtain ⟨v, e1, e2⟩ := fldD_lk e h2
        refine ⟨v, ?_, e2⟩
        have nz : (Str.ofString f == Str.ofString g) = false := by
          cases hb : (Str.ofString f == Str.ofString g)
          · rfl
          · exact absurd (ofString_inj (eq_of_beq hb)) (fun w => z w.symm)
        simp [List.lookup, nz, e1]
def mFld (L : List String) (f : String) (a : M D) : M D := mOp1 (fFld L f) a
section
variable {T : String → Option Addr} {io : Io} {X : Cx} {W : WX} {p p1 p2 : Bool} {pos : Pos}
/-- what the classes of L must be -/
def FldOk (K : PySem.W.Frag) (T : String → Option Addr) (L : List String) (f : String) : Prop := ∀ c ∈ L, ∀ C, T c = some C → Cls K C ∧ NoAttr K C (Str.ofString f)
theorem qb_fld {e : Expr} {L : List String} {f : String} {a : M D} (hL : FldOk X.K T L f) (he : QB T io X W p e a) (hb : attributeBase e (Str.ofString f) X.env (eval e X.env) = eval e X.env := by rfl) : QB T io X W p (.Attribute e (Str.ofString f) pos) (mFld L f a) := fun G g =>
  PE.imp (pe_fld (he G g) hb) fun σ H Q ⟨F, r, t, tv, h1, h2⟩ => by
    refine ⟨F, r, t, tv, h1, (sat_bind h2).mono (fun d r1 q v F1 H1 s1 s2 h3 lk => ?_) fun _ _ q => q⟩
    obtain ⟨d', e1, q5⟩ := sat_opt q
    unfold fFld at e1
    split at e1
    · rename_i o c fs ds
      split at e1
      · rename_i hc
        obtain ⟨a', vs, rfl, hn, hl⟩ := lk.node h3.sub
        obtain ⟨_, C, dx, hT, hH, hd⟩ := hn
        obtain ⟨v', e2, lk2⟩ := fldD_lk e1 hl
        obtain ⟨k1, k2⟩ := hL c hc C hT
        exact ⟨a', C, dx, _, v', rfl, hH, k1, k2, e2, q5 v' F1 H1 s1 s2 h3 lk2⟩
      · cases e1
    · cases e1

/-! ### x.f = e -/
def putF? : List String → List D → String → D → List String × List D
  | g :: gs, d :: ds, f, y => if g = f then (g :: gs, y :: ds) else ((g :: (putF? gs ds f y).1), d :: (putF? gs ds f y).2)
  | _, _, f, y => ([f], [y])
theorem putF_zip {f : String} {y : V} {dy : D} : ∀ {fs : List String} {ds : List D} {vs : List V}, fs.length = vs.length → ds.length = vs.length →
    ∃ vs', putF (Str.ofString f) y ((fs.map fun x => Str.ofString x).zip vs) = ((putF? fs ds f dy).1.map fun x => Str.ofString x).zip vs' ∧ (putF? fs ds f dy).1.length = vs'.length ∧
      ∀ (K : PySem.W.Frag) (T : String → Option Addr), Sel K T (dy :: ds) (y :: vs) (putF? fs ds f dy).2 vs'
  | [], [], [], _, _ => ⟨[y], rfl, rfl, fun _ _ => .refl⟩
  | [], [], _ :: _, h, _ => by simp at h
  | [], _ :: _, [], _, h => by simp at h
  | [], _ :: _, _ :: _, h, _ => by simp at h
  | _ :: _, _, [], h, _ => by simp at h
  | _ :: _, [], _ :: _, _, h => by simp at h
  | g :: gs, d :: ds, v :: vs, h1, h2 => by
    by_cases z : g = f
    · subst z
      refine ⟨y :: vs, ?_, ?_, fun K T => ?_⟩
      · simp [putF, putF?]
      · simpa [putF?] using h1
      · simp only [putF?, if_true]
        exact Sel.trans .swap .tail
    · obtain ⟨vs', e1, e2, e3⟩ := putF_zip (f := f) (y := y) (dy := dy) (fs := gs) (ds := ds) (vs := vs) (by simpa using h1) (by simpa using h2)
      have nz : ¬ Str.ofString g = Str.ofString f := fun w => z (ofString_inj w)
      refine ⟨v :: vs', ?_, ?_, fun K T => ?_⟩
      · simp only [putF?, if_neg z, List.map_cons, List.zip_cons_cons, putF, if_neg nz]
        rw [e1]
      · simp only [putF?, if_neg z, List.length_cons, e2]
      · simp only [putF?, if_neg z]
        exact Sel.trans .swap (.cons (e3 K T))
/-- x.f = e, x a name -/
def setFldR (L : List String) (i : Nat) (f : String) (d : D) : M Fl := fun r => match slot? i r with
  | some (.node true (.ins c fs) ds) => if c ∈ L ∧ fs.length < 1000 then .ok .nx (r.set i (some (.node true (.ins c (putF? fs ds f d).1) (putF? fs ds f d).2))) else .no
  | _ => .no
def mSetFld (L : List String) (i : Nat) (f : String) (a : M D) : M Fl := M.bind a (setFldR L i f)
theorem qs_setFld {i : Nat} {x : Str} {L : List String} {f : String} {e : Expr} {np tpos : Pos} {a : M D} (hL : FldOk X.K T L f) (hN : X.N[i]? = some x) (hv : Vis X.env.scope x) (he : QE T io X W p e a) (hd : (x == ("__debug__" : Str)) = false := by decide) (hcd : (x == ("__classdict__" : Str)) = false := by decide)
    (hs : swapsWith e (some (.Attribute (.Name x np) (Str.ofString f) tpos)) pos.line X.env = pure false := by rfl) : QS T io X W (.Assign [.Attribute (.Name x np) (Str.ofString f) tpos] e pos) (mSetFld L i f a) := fun G g =>
  PS.imp (ps_fld (pe_var hN hv hd hcd) (he G g) hs) fun B σ H ⟨F, r, t, tv, h1, h2⟩ => by
    refine ⟨F, r, t, tv, h1, (sat_bind h2).mono (fun d r1 q v F1 H1 s1 z1 h3 => ?_) fun _ _ q => q.toP⟩
    unfold setFldR at q
    split at q
    · rename_i c fs ds e1
      split at q
      · rename_i hc
        obtain ⟨a', vs, C, dx, y1, y2, y3, y4, y5, y6⟩ := Rl.mutSlot (ext := [d]) (evs := [v]) rfl h3 e1
        obtain ⟨vs', w1, w2, w3⟩ := putF_zip (f := f) (y := v) (dy := d) (fs := fs) (ds := ds) (vs := vs) y2 y5
        obtain ⟨k1, k2⟩ := hL c hc.1 C y4.1
        refine ⟨_, y1, a', C, dx, _, rfl, y3, k1, k2, ?_, ?_⟩
        · have y2 : fs.length = vs.length := y2
          rw [List.length_zip, List.length_map, ← y2, Nat.min_self]; exact hc.2
        · rw [w1]
          exact q σ F1 _ s1 (y6 (.ins c (putF? fs ds f d).1) (putF? fs ds f d).2 vs' rfl w2 (w3 X.K T))
      · exact q.elim
    · exact q.elim

/-! ### methods -/
def tMethE (C : Addr) (m : Str) (sp : Sp) (E : L2.St → XK) (ta : TE) (t : TA) : TE := fun σ H Q => ta σ H fun x H1 => ∃ a dx fs, x = .ref a ∧ H1 a = some (.ins C dx fs) ∧ fs.lookup m = none ∧ t σ H1 fun vs H2 => sp (x :: vs) H2 Q (E σ)
theorem pe_methE {CX : CXT} {k : Nat} {C f : Addr} {m : Str} {fd : FuncData} {ps : List Str} {sp : Sp} {E : L2.St → XK} {o e : Expr} {es : List Expr} {ta : TE} {t : TA} {apos : Pos} {pl : Sem Bool} (he : PE X o ta) (c : Cls X.K C) (hm : Meth X.K C m f) (F : FnOk X.prog X.w X.K X.mg X.base CX k f fd ps sp) (hr : Room k X.A) (hb : Binds X.K fd ps []) (hx : ∀ σ, PassesAt CX X σ (E σ)) (ha : PA X (e :: es) t)
    (hst : starEach (e :: es) X.env = (false, eval e X.env) :: starEach es X.env := by rfl) (hpl : (backTo pos (starEach es X.env)).any (·.1) = false := by rfl)
    (ht : eval (.Call (.Attribute o m apos) (e :: es) [] pos) X.env = (do let ov ← eval o X.env; standAt apos.atName; let (g, first) ← holding [ov] (getMethod ov m pl); callWith pos g first (backTo pos (starEach (e :: es) X.env)) (backToKw pos (keywordEach [] X.env))) := by rfl) :
    PE X (.Call (.Attribute o m apos) (e :: es) [] pos) (tMethE C m sp E ta t) := ⟨fun pins s σ H Q I h => by
  refine PySem.W.methodCall_KW (pl := pl) (thn (he.run pins s σ H _ I h) fun u s1 z => ?_) ht
  obtain ⟨x, H1, I1, rx, a, dx, fs, ex, ea, l, q⟩ := z
  subst ex
  cases rx
  refine getmeth_ok I1 ea c hm l (PySem.W.callWith_K (first := [.ref a]) (h₀ := X.base) I.ok.mod.kin hm.kp (thn (ha.run pos pins s1 σ H1 _ I1 q) fun us s2 y => ?_) hst hpl)
  obtain ⟨vs, H2, I2, r, q2⟩ := y
  exact ⟨I2.kIn, run_fnS (us := .ref a :: us) (vs := .ref a :: vs) F hr hb (hx σ) I2 (.cons rfl r) q2⟩⟩
theorem pe_methE0 {CX : CXT} {k : Nat} {C f : Addr} {m : Str} {fd : FuncData} {ps : List Str} {sp : Sp} {E : L2.St → XK} {o : Expr} {ta : TE} {apos : Pos} {pl : Sem Bool} (he : PE X o ta) (c : Cls X.K C) (hm : Meth X.K C m f) (F : FnOk X.prog X.w X.K X.mg X.base CX k f fd ps sp) (hr : Room k X.A) (hb : Binds X.K fd ps []) (hx : ∀ σ, PassesAt CX X σ (E σ))
    (ht : eval (.Call (.Attribute o m apos) [] [] pos) X.env = (do let ov ← eval o X.env; standAt apos.atName; let (g, first) ← holding [ov] (getMethod ov m pl); callWith pos g first (backTo pos (starEach [] X.env)) (backToKw pos (keywordEach [] X.env))) := by rfl) :
    PE X (.Call (.Attribute o m apos) [] [] pos) (tMethE C m sp E ta (fun _ H Q => Q [] H)) := ⟨fun pins s σ H Q I h => by
  refine PySem.W.methodCall_KW (pl := pl) (thn (he.run pins s σ H _ I h) fun u s1 z => ?_) ht
  obtain ⟨x, H1, I1, rx, a, dx, fs, ex, ea, l, q⟩ := z
  subst ex
  cases rx
  exact getmeth_ok I1 ea c hm l (PySem.W.callWith_K0 (first := [.ref a]) I1.kIn hm.kp (run_fnS (us := [.ref a]) (vs := [.ref a]) F hr hb (hx σ) I1 (.cons rfl .nil) q))⟩
/-- the class of data -/
def isC (c m : String) : D → Bool
  | .node _ (.ins c' fs) _ => decide (c' = c) && fs.all fun f => !decide (f = m)
  | _ => false
theorem look_none {m : String} : ∀ {fs : List String} {vs : List V}, (fs.all fun f => !decide (f = m)) = true → ((fs.map fun x => Str.ofString x).zip vs).lookup (Str.ofString m) = none
  | [], _, _ => by simp
  | _ :: _, [], _ => by simp
  | g :: gs, v :: vs, h => by
    simp only [List.all_cons, Bool.and_eq_true, Bool.not_eq_true', decide_eq_false_iff_not] at h
    have nz : (Str.ofString m == Str.ofString g) = false := by
      cases hb : (Str.ofString m == Str.ofString g)
      · rfl
      · exact absurd (ofString_inj (eq_of_beq hb)) (fun w => h.1 w.symm)
    simp only [List.map_cons, List.zip_cons_cons, List.lookup, nz]
    exact look_none h.2
theorem isC_lk {K : PySem.W.Frag} {T : String → Option Addr} {F H : Hp} {c m : String} {C : Addr} {d : D} {v : V} (h : isC c m d = true) (hT : T c = some C) (lk : Lk K T F H d v) (s : Same F H) : ∃ a dx fs, v = .ref a ∧ H a = some (.ins C dx fs) ∧ fs.lookup (Str.ofString m) = none := by
  unfold isC at h
  split at h
  · rename_i o c' fs ds
    obtain ⟨h1, h2⟩ := Bool.and_eq_true_iff.mp h
    have h1 := of_decide_eq_true h1
    subst h1
    obtain ⟨a', vs, rfl, hn, hl⟩ := lk.node s
    obtain ⟨_, C', dx, hT', hH, hd⟩ := hn
    have e : C' = C := Option.some.inj (hT'.symm.trans hT)
    subst e
    exact ⟨a', dx, _, rfl, hH, look_none h2⟩
  · cases h
/-- o.m(..), all looked at: the answer a leaf -/
def mMethB (c m : String) (np : Nat) (fn : Fn) (o : M D) (args : M (List D)) : M D := M.bind o fun d => M.bind (M.ck (isC c m d)) fun _ => M.bind args fun ds => M.bind (M.ck (decide (ds.length + 1 = np))) fun _ => runB fn (d.frz :: D.frzL ds)
theorem qe_methB {c m : String} {C f : Addr} {k np : Nat} {fd : FuncData} {ps : List Str} {fn : Fn} {o e : Expr} {es : List Expr} {mo : M D} {a : M (List D)} {apos : Pos} {pl : Sem Bool} (hT : T c = some C) (hc : Cls X.K C) (hm : Meth X.K C (Str.ofString m) f)
    (F : FnOk X.prog X.w X.K X.mg X.base (L2.CX X.prog X.w) k f fd ps (spV X.K T np [] fn)) (hr : Room k X.A) (hb : Binds X.K fd ps []) (tk : Takes X W) (ho : QB T io X W p o mo) (ha : QAB T io X W true (e :: es) a)
    (hst : starEach (e :: es) X.env = (false, eval e X.env) :: starEach es X.env := by rfl) (hpl : (backTo pos (starEach es X.env)).any (·.1) = false := by rfl)
    (ht : eval (.Call (.Attribute o (Str.ofString m) apos) (e :: es) [] pos) X.env = (do let ov ← eval o X.env; standAt apos.atName; let (g, first) ← holding [ov] (getMethod ov (Str.ofString m) pl); callWith pos g first (backTo pos (starEach (e :: es) X.env)) (backToKw pos (keywordEach [] X.env))) := by rfl) :
    QE T io X W p (.Call (.Attribute o (Str.ofString m) apos) (e :: es) [] pos) (mMethB c m np fn mo a) := fun G g =>
  PE.imp (pe_methE (ho G g) hc hm F hr hb (fun σ => passAt tk σ) (ha G g) hst hpl ht) fun σ H Q ⟨F0, r, t, tv, h1, h2⟩ => by
    refine ⟨F0, r, t, tv, h1, (sat_bind h2).mono (fun d r1 q v F1 H1 s1 z1 h3 lk => ?_) fun _ _ q => q⟩
    obtain ⟨hi, q⟩ := sat_ck (sat_bind q)
    obtain ⟨a', dx, fs, rfl, hH, hl⟩ := isC_lk hi hT lk h3.sub
    refine ⟨a', dx, fs, rfl, hH, hl, F1, r1, t, tv, h3, (sat_bind q).mono (fun ds r2 q vs F2 H2 s2 z2 h4 lk2 => ?_) fun _ _ q => q.trans s1⟩
    obtain ⟨hn, q⟩ := sat_ck (sat_bind q)
    refine callB_imp (ds := d :: ds) (.cons (lk.mono s2 (z2 rfl)) lk2) (of_decide_eq_true hn) h4 (q.mono (fun d' r' q v H' z3 h5 => q v F2 H' (s1.trans s2) (fun z => ((z1 z).trans (z2 rfl)).trans z3) h5) fun _ _ q => q.trans (s1.trans s2))
theorem qe_methB0 {c m : String} {C f : Addr} {k np : Nat} {fd : FuncData} {ps : List Str} {fn : Fn} {o : Expr} {mo : M D} {apos : Pos} {pl : Sem Bool} (hT : T c = some C) (hc : Cls X.K C) (hm : Meth X.K C (Str.ofString m) f)
    (F : FnOk X.prog X.w X.K X.mg X.base (L2.CX X.prog X.w) k f fd ps (spV X.K T np [] fn)) (hr : Room k X.A) (hb : Binds X.K fd ps []) (tk : Takes X W) (ho : QB T io X W p o mo)
    (ht : eval (.Call (.Attribute o (Str.ofString m) apos) [] [] pos) X.env = (do let ov ← eval o X.env; standAt apos.atName; let (g, first) ← holding [ov] (getMethod ov (Str.ofString m) pl); callWith pos g first (backTo pos (starEach [] X.env)) (backToKw pos (keywordEach [] X.env))) := by rfl) :
    QE T io X W p (.Call (.Attribute o (Str.ofString m) apos) [] [] pos) (mMethB c m np fn mo mNil) := fun G g =>
  PE.imp (pe_methE0 (ho G g) hc hm F hr hb (fun σ => passAt tk σ) ht) fun σ H Q ⟨F0, r, t, tv, h1, h2⟩ => by
    refine ⟨F0, r, t, tv, h1, (sat_bind h2).mono (fun d r1 q v F1 H1 s1 z1 h3 lk => ?_) fun _ _ q => q⟩
    obtain ⟨hi, q⟩ := sat_ck (sat_bind q)
    obtain ⟨a', dx, fs, rfl, hH, hl⟩ := isC_lk hi hT lk h3.sub
    refine ⟨a', dx, fs, rfl, hH, hl, ?_⟩
    have q1 := sat_bind q
    have q : ((M.bind (M.ck (decide (([] : List D).length + 1 = np))) fun _ => runB fn (d.frz :: D.frzL [])) r1).sat _ _ := q1
    obtain ⟨hn, q⟩ := sat_ck (sat_bind q)
    exact callB_imp (ds := [d]) (.cons lk .nil) (of_decide_eq_true hn) h3 (q.mono (fun d' r' q v H' z3 h5 => q v F1 H' s1 (fun z => (z1 z).trans z3) h5) fun _ _ q => q.trans s1)
/-- x.m(..), x a name, its data given up and given back -/
def mMeth (c m : String) (i : Nat) (fn : Fn) (cio : List Nat) (bk : List (Option Nat)) (args : M (List D)) : M D := fun r => match slot? i r with
  | some d => if isC c m d = true then mCall fn cio (some i :: bk) (mCons (mMove i) args) r else .no
  | none => .no
theorem qe_meth {c m : String} {C f : Addr} {k np i : Nat} {x : Str} {fd : FuncData} {ps : List Str} {fn : Fn} {cio : List Nat} {bk : List (Option Nat)} {e : Expr} {es : List Expr} {a : M (List D)} {xpos apos : Pos} {pl : Sem Bool} (hT : T c = some C) (hc : Cls X.K C) (hm : Meth X.K C (Str.ofString m) f)
    (F : FnOk X.prog X.w X.K X.mg X.base (L2.CX X.prog X.w) k f fd ps (spV X.K T np cio fn)) (hr : Room k X.A) (hb : Binds X.K fd ps []) (tk : Takes X W) (hnp : bk.length + 1 = np) (hN : X.N[i]? = some x) (hv : Vis X.env.scope x) (ha : QAI T io X W p bk (e :: es) a)
    (hd : (x == ("__debug__" : Str)) = false := by decide) (hcd : (x == ("__classdict__" : Str)) = false := by decide)
    (hst : starEach (e :: es) X.env = (false, eval e X.env) :: starEach es X.env := by rfl) (hpl : (backTo pos (starEach es X.env)).any (·.1) = false := by rfl)
    (ht : eval (.Call (.Attribute (.Name x xpos) (Str.ofString m) apos) (e :: es) [] pos) X.env = (do let ov ← eval (.Name x xpos) X.env; standAt apos.atName; let (g, first) ← holding [ov] (getMethod ov (Str.ofString m) pl); callWith pos g first (backTo pos (starEach (e :: es) X.env)) (backToKw pos (keywordEach [] X.env))) := by rfl) :
    QE T io X W false (.Call (.Attribute (.Name x xpos) (Str.ofString m) apos) (e :: es) [] pos) (mMeth c m i fn cio bk a) := fun G g =>
  PE.imp (pe_methE (pe_var hN hv hd hcd) hc hm F hr hb (fun σ => passAt tk σ) (ha G g) hst hpl ht) fun σ H Q ⟨F0, r, t, tv, h1, h2⟩ => by
    unfold mMeth at h2
    split at h2
    · rename_i d e1
      split at h2
      · rename_i hi
        obtain ⟨v, ev, h3⟩ := h1.take (slot?_eq e1)
        obtain ⟨a', dx, fs, rfl, hH, hl⟩ := isC_lk hi hT h3.top h3.sub
        refine ⟨_, ev, a', dx, fs, rfl, hH, hl, F0, r.set i none, d :: t, .ref a' :: tv, h3, ?_⟩
        have q := sat_bind h2
        have em : mMove i r = .ok d (r.set i none) := by unfold mMove; rw [e1]
        have q : (mCons (mMove i) a r).sat _ _ := q
        unfold mCons at q
        have q := sat_bind q
        rw [em] at q
        have q := sat_bind (show ((M.bind a fun ds => M.ret (d :: ds)) (r.set i none)).sat _ _ from q)
        refine q.mono (fun ds r2 q vs F2 H2 s2 z2 hl2 hlb hj h4 => ?_) fun c' r' q => fun C' F2 H2 z s3 h4 => q C' F2 H2 z s3 h4.drop
        refine call_imp (bk := some i :: bk) (ds := d :: ds) (vs := .ref a' :: vs) (by simp [hl2]) (by simp [hlb]; exact hnp) (fun j i' e => ?_) (Rl.lift hl2 h4) (R.sat.mono (x := mCall fn cio (some i :: bk) (M.ret (d :: ds)) r2) q (fun d' r' q v F' H' s5 h5 => q v F' H' (s2.trans s5) (fun z => nomatch z) h5) fun _ _ q => q.trans s2)
        cases j with
        | zero => simp at e; subst e; exact ⟨_, rfl, ev⟩
        | succ j => simpa using hj j i' (by simpa using e)
      · exact h2.elim
    · exact h2.elim
theorem qe_meth0 {c m : String} {C f : Addr} {k np i : Nat} {x : Str} {fd : FuncData} {ps : List Str} {fn : Fn} {cio : List Nat} {xpos apos : Pos} {pl : Sem Bool} (hT : T c = some C) (hc : Cls X.K C) (hm : Meth X.K C (Str.ofString m) f)
    (F : FnOk X.prog X.w X.K X.mg X.base (L2.CX X.prog X.w) k f fd ps (spV X.K T np cio fn)) (hr : Room k X.A) (hb : Binds X.K fd ps []) (tk : Takes X W) (hnp : 1 = np) (hN : X.N[i]? = some x) (hv : Vis X.env.scope x)
    (hd : (x == ("__debug__" : Str)) = false := by decide) (hcd : (x == ("__classdict__" : Str)) = false := by decide)
    (ht : eval (.Call (.Attribute (.Name x xpos) (Str.ofString m) apos) [] [] pos) X.env = (do let ov ← eval (.Name x xpos) X.env; standAt apos.atName; let (g, first) ← holding [ov] (getMethod ov (Str.ofString m) pl); callWith pos g first (backTo pos (starEach [] X.env)) (backToKw pos (keywordEach [] X.env))) := by rfl) :
    QE T io X W false (.Call (.Attribute (.Name x xpos) (Str.ofString m) apos) [] [] pos) (mMeth c m i fn cio [] mNil) := fun G g =>
  PE.imp (pe_methE0 (pe_var hN hv hd hcd) hc hm F hr hb (fun σ => passAt tk σ) ht) fun σ H Q ⟨F0, r, t, tv, h1, h2⟩ => by
    unfold mMeth at h2
    split at h2
    · rename_i d e1
      split at h2
      · rename_i hi
        obtain ⟨v, ev, h3⟩ := h1.take (slot?_eq e1)
        obtain ⟨a', dx, fs, rfl, hH, hl⟩ := isC_lk hi hT h3.top h3.sub
        refine ⟨_, ev, a', dx, fs, rfl, hH, hl, ?_⟩
        have q := sat_bind h2
        have em : mMove i r = .ok d (r.set i none) := by unfold mMove; rw [e1]
        have q : (mCons (mMove i) mNil r).sat _ _ := q
        unfold mCons at q
        have q := sat_bind q
        rw [em] at q
        refine call_imp (bk := [some i]) (ds := [d]) (vs := [.ref a']) rfl hnp (fun j i' e => ?_) h3 (R.sat.mono (x := mCall fn cio [some i] (M.ret [d]) (r.set i none)) q (fun d' r' q v F' H' s5 h5 => q v F' H' s5 (fun z => nomatch z) h5) fun _ _ q => q)
        cases j with
        | zero => simp at e; subst e; exact ⟨_, rfl, ev⟩
        | succ j => simp at e
      · exact h2.elim
    · exact h2.elim
end
end VL

/-! VL23: making instances; in and len of instances; the evaluator's lemmas for instances. -/
namespace VL
open PySem PySem.Spec L2
section
variable {K : PySem.W.Frag} {T : String → Option Addr} {G : Gm} {F H : Hp} {r : VS} {t : List D} {σ : L2.St} {tv : List V}
/-- a new instance without fields -/
theorem Rl.allocIns {c : String} {C x dx : Addr} (hT : T c = some C) (hx : H x = none) (hd : H dx = none) (ne : dx ≠ x) (h : Rl K T G F r t σ tv H) :
    Rl K T G F r (.node true (.ins c []) [] :: t) σ (.ref x :: tv) (upd (upd H dx (.own x)) x (.ins C dx [])) := by
  obtain ⟨fx, gx⟩ := h.fresh hx
  obtain ⟨fd, gd⟩ := h.fresh hd
  obtain ⟨⟨Ps, Pt, h1, h2, dj, hq⟩, b1, b2, b3, b4, b5⟩ := h
  have st : ∀ a, (∃ o, H a = some o) → upd (upd H dx (.own x)) x (.ins C dx []) a = H a := fun a ⟨o, e⟩ => by
    rw [upd_ne (ne_of_none e hx), upd_ne (ne_of_none e hd)]
  have s : Same H (upd (upd H dx (.own x)) x (.ins C dx [])) := fun a o e => by rw [st a ⟨o, e⟩]; exact e
  have nx : ∀ {Q : Ft}, (∀ a, Q a → F a = none ∧ ∃ o, H a = some o) → ¬ Q x ∧ ¬ Q dx := fun hQ => by
    constructor
    · intro z; obtain ⟨_, o, e⟩ := hQ x z; rw [hx] at e; cases e
    · intro z; obtain ⟨_, o, e⟩ := hQ dx z; rw [hd] at e; cases e
  have nS := nx fun a z => h1.at z
  have nT := nx fun a z => h2.at z
  refine ⟨⟨Ps, fun a => ((a = x ∨ a = dx) ∨ False) ∨ Pt a, h1.frame (Same.refl _) (fun a z => st a (h1.at z).2) fun a z => (h1.at z).1, ?_, ?_, ?_⟩, b1.trans s, fun a o e n => s _ _ (b2 a o e n), b3, b4, b5⟩
  · refine .cons (P1 := fun a => (a = x ∨ a = dx) ∨ False) (P2 := Pt) (.own (dx := dx) (vs := []) (P0 := fun _ => False) ⟨rfl, C, upd_same, hT, ?_, ne⟩ (.nil fun _ z => z) (fun z => z) (fun z => z) fx fd fun _ => Iff.rfl)
      (h2.frame (Same.refl _) (fun a z => st a (h2.at z).2) fun a z => (h2.at z).1) (fun a z q => ?_) fun _ => Iff.rfl
    · rw [upd_ne ne]; exact upd_same
    · rcases z with (rfl | rfl) | z
      · exact nT.1 q
      · exact nT.2 q
      · exact z
  · intro a z q
    rcases q with ((rfl | rfl) | q) | q
    · exact nS.1 z
    · exact nS.2 z
    · exact q
    · exact dj a z q
  · intro a z
    rcases z with z | ((rfl | rfl) | z) | z
    · exact hq a (.inl z)
    · exact gx
    · exact gd
    · exact z.elim
    · exact hq a (.inr z)
end
section
variable {T : String → Option Addr} {io : Io} {X : Cx} {W : WX} {p p1 p2 : Bool} {pos : Pos}
def tMakeE (C : Addr) (sp : Sp) (E : L2.St → XK) (t : TA) : TE := fun σ H Q => t σ H fun vs H1 => ∀ x dx, H1 x = none → H1 dx = none → dx ≠ x → sp (.ref x :: vs) (upd (upd H1 dx (.own x)) x (.ins C dx [])) (fun v H2 => v = .non ∧ Q (.ref x) H2) (E σ)
theorem pe_makeE {k : Nat} {C f : Addr} {x : Str} {pp : Pos} {fd : FuncData} {ps : List Str} {sp : Sp} {e : Expr} {es : List Expr} {t : TA} (M : Mk X.K C f) (F : FnOk X.prog X.w X.K X.mg X.base (L2.CX X.prog X.w) k f fd ps sp) (hr : Room (k + 1) X.A) (hg : Gl X x) (hm : X.mg x = some (.ref C)) (hb : Binds X.K fd ps []) (tk : Takes X W) (ha : PA X (e :: es) t)
    (hdb : (x == ("__debug__" : Str)) = false := by decide) (he : starEach (e :: es) X.env = (false, eval e X.env) :: starEach es X.env := by rfl) (hpl : (backTo pos (starEach es X.env)).any (·.1) = false := by rfl) :
    PE X (.Call (.Name x pp) (e :: es) [] pos) (tMakeE C sp (WE W) t) := ⟨fun pins s σ H Q I h => by
  refine wpAny_Call_Name_kw (ld_glob I hg hm (PySem.W.callWith_K (h₀ := X.base) I.ok.mod.kin M.kp (thn (ha.run pos pins s σ H _ I h) fun us s1 z => ?_) he hpl) hdb)
  obtain ⟨vs, H1, I1, rv, q⟩ := z
  refine ⟨I1.kIn, ?_⟩
  have hq := q (s1.heap.objs.size + 1) s1.heap.objs.size (I1.hok.fresh (Nat.le_succ _)) (I1.hok.fresh (Nat.le_refl _)) (Nat.ne_of_lt (Nat.lt_succ_self _))
  have I2 := Inv.made (C := C) I1
  have r2 : Vals (V.ref (s1.heap.objs.size + 1) :: vs) (Value.ref (s1.heap.objs.size + 1) :: us) := .cons rfl rv
  have hl : (Value.ref (s1.heap.objs.size + 1) :: us).length = ps.length := by rw [← r2.length]; exact F.len _ _ _ _ hq
  have b := hb _ (Value.ref (s1.heap.objs.size + 1) :: us) I2.kIn (by rw [List.append_nil]; exact hl)
  rw [List.append_nil] at b
  have tk2 := passAt tk σ
  refine wpAny_call (make_map (f := f) I1.kIn M.makes M.init (beq_iff_eq.mp M.fn) (codeAny_mono (F.run _ X.stack _ _ ⟨Value.ref (s1.heap.objs.size + 1) :: us, []⟩ (Value.ref (s1.heap.objs.size + 1) :: us) _ _ (WE W σ) (hr.make C us []) (I2.env0.make C us []) b r2 hq) fun r s' hz => ?_))
  cases r with
  | error e => exact tk2 pins _ _ e s' I2 hz
  | ok fl =>
    cases fl with
    | ret u =>
      obtain ⟨v, H', I3, ru, ev, q3⟩ := I2.after hz
      subst ev
      exact ⟨ru, ⟨V.ref (s1.heap.objs.size + 1), H', I3, rfl, q3⟩⟩
    | next => exact False.elim hz
    | brk => exact False.elim hz
    | cont => exact False.elim hz⟩
theorem pe_makeE0 {k : Nat} {C f : Addr} {x : Str} {pp : Pos} {fd : FuncData} {ps : List Str} {sp : Sp} (M : Mk X.K C f) (F : FnOk X.prog X.w X.K X.mg X.base (L2.CX X.prog X.w) k f fd ps sp) (hr : Room (k + 1) X.A) (hg : Gl X x) (hm : X.mg x = some (.ref C)) (hb : Binds X.K fd ps []) (tk : Takes X W)
    (hdb : (x == ("__debug__" : Str)) = false := by decide) : PE X (.Call (.Name x pp) [] [] pos) (tMakeE C sp (WE W) (fun _ H Q => Q [] H)) := ⟨fun pins s σ H Q I q => by
  refine wpAny_Call_Name_kw (ld_glob I hg hm (PySem.W.callWith_K0 I.kIn M.kp ?_) hdb)
  have hq := q (s.heap.objs.size + 1) s.heap.objs.size (I.hok.fresh (Nat.le_succ _)) (I.hok.fresh (Nat.le_refl _)) (Nat.ne_of_lt (Nat.lt_succ_self _))
  have I2 := Inv.made (C := C) I
  have r2 : Vals [V.ref (s.heap.objs.size + 1)] [Value.ref (s.heap.objs.size + 1)] := .cons rfl .nil
  have hl : [Value.ref (s.heap.objs.size + 1)].length = ps.length := by rw [← r2.length]; exact F.len _ _ _ _ hq
  have b := hb _ [Value.ref (s.heap.objs.size + 1)] I2.kIn (by rw [List.append_nil]; exact hl)
  rw [List.append_nil] at b
  have tk2 := passAt tk σ
  refine wpAny_call (make_map (f := f) I.kIn M.makes M.init (beq_iff_eq.mp M.fn) (codeAny_mono (F.run _ X.stack _ _ ⟨[Value.ref (s.heap.objs.size + 1)], []⟩ [Value.ref (s.heap.objs.size + 1)] _ _ (WE W σ) (hr.make C [] []) (I2.env0.make C [] []) b r2 hq) fun r s' hz => ?_))
  cases r with
  | error e => exact tk2 pins _ _ e s' I2 hz
  | ok fl =>
    cases fl with
    | ret u =>
      obtain ⟨v, H', I3, ru, ev, q3⟩ := I2.after hz
      subst ev
      exact ⟨ru, ⟨V.ref (s.heap.objs.size + 1), H', I3, rfl, q3⟩⟩
    | next => exact False.elim hz
    | brk => exact False.elim hz
    | cont => exact False.elim hz⟩
def RF.toM : RF → VS → R D := fun x r => match x with
  | .ok (.leaf .non) [d] => .ok d r
  | .ex c [_] => .ex c r
  | _ => .no
def runM (c : String) (fn : Fn) (ds : List D) : M D := fun r => (fn (.node true (.ins c []) [] :: ds)).toM r
/-- C(..) -/
def mMake (c : String) (np : Nat) (fn : Fn) (args : M (List D)) : M D := M.bind args fun ds => M.bind (M.ck (decide (ds.length + 1 = np))) fun _ => runM c fn (D.frzL ds)
theorem make_imp {G : Gm} {F H : Hp} {r : VS} {t : List D} {σ : L2.St} {tv : List V} {c : String} {C x dx : Addr} {ds : List D} {vs : List V} {fn : Fn} {np : Nat} {Q : VK} (hT : T c = some C) (hf : FzL X.K T F ds vs) (hn : ds.length + 1 = np) (h : Rl X.K T G F r t σ tv H) (hx : H x = none) (hd : H dx = none) (ne : dx ≠ x)
    (q : (runM c fn ds r).sat (fun d r' => ∀ v F' H', Same F F' → Rl X.K T G F' r' (d :: t) σ (v :: tv) H' → Q v H') (exP X.K T G W σ t tv F)) :
    spV X.K T np [0] fn (.ref x :: vs) (upd (upd H dx (.own x)) x (.ins C dx [])) (fun v H2 => v = .non ∧ Q (.ref x) H2) (WE W σ) := by
  have h2 := Rl.allocIns hT hx hd ne (h.pushL hf)
  obtain ⟨A, g1, after⟩ := Rl.split (ds := .node true (.ins c []) [] :: ds) (vs := .ref x :: vs) (by simp [hf.length]) h2
  refine ⟨F, _, A, g1, h2.sub, hn, ?_⟩
  unfold runM at q
  cases e : fn (.node true (.ins c []) [] :: ds) with
  | no => rw [e] at q; exact q
  | ok d os =>
    rw [e] at q
    have nn : ∀ d os, (RF.toM (.ok d os) r).sat (fun d r' => ∀ v F' H', Same F F' → Rl X.K T G F' r' (d :: t) σ (v :: tv) H' → Q v H') (exP X.K T G W σ t tv F) → ∃ d', d = .non ∧ os = [d'] := by
      intro d os z
      cases d with
      | node => exact z.elim
      | leaf s =>
        cases s with
        | non =>
          cases os with
          | nil => exact z.elim
          | cons a l => cases l with
            | nil => exact ⟨a, rfl, rfl⟩
            | cons _ _ => exact z.elim
        | _ => exact z.elim
    obtain ⟨d', rfl, rfl⟩ := nn d os q
    intro v F' H' vo P' w1 w2 w3
    have ev : ∃ u, vo = [u] := by
      cases vo with
      | nil => simp at w3
      | cons u l => cases l with
        | nil => exact ⟨u, rfl⟩
        | cons _ _ => simp at w3
    obtain ⟨u, rfl⟩ := ev
    have eu : u = .ref x := by simpa using w3
    subst eu
    have h5 := after F' H' _ _ P' w1 w2
    have hv : v = .non := by
      have h6 : Rl X.K T G F' r (d' :: .non :: t) σ (.ref x :: v :: tv) H' := h5
      exact lk_leaf h6.drop.top
    refine ⟨hv, q (.ref x) F' H' w2.fr ?_⟩
    have h6 : Rl X.K T G F' r (d' :: .non :: t) σ (.ref x :: v :: tv) H' := h5
    exact (Rl.swap h6).drop
  | ex cn os =>
    rw [e] at q
    have nn : ∃ d', os = [d'] := by
      cases os with
      | nil => exact q.elim
      | cons a l => cases l with
        | nil => exact ⟨a, rfl⟩
        | cons _ _ => exact q.elim
    obtain ⟨d', rfl⟩ := nn
    intro C' F' H' vo P' hT' w1 w2 w3
    have ev : ∃ u, vo = [u] := by
      cases vo with
      | nil => simp at w3
      | cons u l => cases l with
        | nil => exact ⟨u, rfl⟩
        | cons _ _ => simp at w3
    obtain ⟨u, rfl⟩ := ev
    have h5 : Rl X.K T G F' r (d' :: t) σ (u :: tv) H' := after F' H' _ _ P' w1 w2
    exact q C' F' H' hT' w2.fr h5.drop
theorem qe_make {c : String} {C f : Addr} {k np : Nat} {pp : Pos} {fd : FuncData} {ps : List Str} {fn : Fn} {e : Expr} {es : List Expr} {a : M (List D)} (hT : T c = some C) (mk : Mk X.K C f) (F : FnOk X.prog X.w X.K X.mg X.base (L2.CX X.prog X.w) k f fd ps (spV X.K T np [0] fn)) (hr : Room (k + 1) X.A) (hg : Gl X (Str.ofString c)) (hm : X.mg (Str.ofString c) = some (.ref C)) (hb : Binds X.K fd ps []) (tk : Takes X W)
    (ha : QA T io X W p (e :: es) a) (hdb : ((Str.ofString c) == ("__debug__" : Str)) = false := by decide) (he : starEach (e :: es) X.env = (false, eval e X.env) :: starEach es X.env := by rfl) (hpl : (backTo pos (starEach es X.env)).any (·.1) = false := by rfl) :
    QE T io X W false (.Call (.Name (Str.ofString c) pp) (e :: es) [] pos) (mMake c np fn a) := fun G g => PE.imp (pe_makeE mk F hr hg hm hb tk (ha G g) hdb he hpl) fun σ H Q ⟨F0, r, t, tv, h1, h2⟩ => by
  refine ⟨F0, r, t, tv, h1, (sat_bind h2).mono (fun ds r1 q vs F1 H1 s1 z1 hl h3 => ?_) fun _ _ q => q⟩
  intro x dx hx hd ne
  obtain ⟨hn, q⟩ := sat_ck (sat_bind q)
  obtain ⟨F2, s2, h4, hf⟩ := Rl.freezeN hl h3
  exact make_imp hT hf (by rw [frzL_length]; exact of_decide_eq_true hn) h4 hx hd ne (q.mono (fun d r' q v F' H' s3 h5 => q v F' H' ((s1.trans s2).trans s3) (fun z => nomatch z) h5) fun _ _ q => q.trans (s1.trans s2))
theorem qe_make0 {c : String} {C f : Addr} {k np : Nat} {pp : Pos} {fd : FuncData} {ps : List Str} {fn : Fn} (hT : T c = some C) (mk : Mk X.K C f) (F : FnOk X.prog X.w X.K X.mg X.base (L2.CX X.prog X.w) k f fd ps (spV X.K T np [0] fn)) (hr : Room (k + 1) X.A) (hg : Gl X (Str.ofString c)) (hm : X.mg (Str.ofString c) = some (.ref C)) (hb : Binds X.K fd ps []) (tk : Takes X W)
    (hdb : ((Str.ofString c) == ("__debug__" : Str)) = false := by decide) : QE T io X W false (.Call (.Name (Str.ofString c) pp) [] [] pos) (mMake c np fn mNil) := fun G g => PE.imp (pe_makeE0 mk F hr hg hm hb tk hdb) fun σ H Q ⟨F0, r, t, tv, h1, h2⟩ => by
  intro x dx hx hd ne
  have q1 := sat_bind h2
  have q : ((M.bind (M.ck (decide (([] : List D).length + 1 = np))) fun _ => runM c fn (D.frzL [])) r).sat _ _ := q1
  obtain ⟨hn, q⟩ := sat_ck (sat_bind q)
  exact make_imp (ds := []) hT .nil (of_decide_eq_true hn) h1 hx hd ne (q.mono (fun d r' q v F' H' s3 h5 => q v F' H' s3 (fun z => nomatch z) h5) fun _ _ q => q)

/-! ### what the evaluator says of these -/
section
variable {r : VS} {ok : Fl → VS → Prop} {ex : String → VS → Prop} {K : D → VS → Prop}
theorem sat_fld {L : List String} {f : String} {a : M D} : (mFld L f a r).sat K ex = (a r).sat (op1K (fFld L f) K) ex := sat_op1
theorem fFld_eq {L : List String} {f c : String} {o : Bool} {fs : List String} {ds : List D} : fFld L f (.node o (.ins c fs) ds) = if c ∈ L then fldD fs ds f else none := nr rfl
theorem fldD_eq {g f : String} {gs : List String} {d : D} {ds : List D} : fldD (g :: gs) (d :: ds) f = if g = f then some d else fldD gs ds f := nr rfl
def setFldK (L : List String) (i : Nat) (f : String) (ok : Fl → VS → Prop) (d : D) (r : VS) : Prop := match slot? i r with
  | some (.node true (.ins c fs) ds) => c ∈ L ∧ fs.length < 1000 ∧ ok .nx (r.set i (some (.node true (.ins c (putF? fs ds f d).1) (putF? fs ds f d).2)))
  | _ => False
theorem sat_setFld {L : List String} {i : Nat} {f : String} {a : M D} : (mSetFld L i f a r).sat ok ex = (a r).sat (setFldK L i f ok) ex := by
  unfold mSetFld; rw [sat_bind_eq]; congr 1; funext d r; unfold setFldR setFldK
  cases slot? i r with
  | none => rfl
  | some d' =>
    cases d' with
    | leaf => rfl
    | node o k ds =>
      cases o with
      | false => rfl
      | true =>
        cases k with
        | ins c fs =>
          show (if c ∈ L ∧ fs.length < 1000 then _ else _ : R Fl).sat ok ex = (c ∈ L ∧ fs.length < 1000 ∧ _)
          by_cases h : c ∈ L ∧ fs.length < 1000
          · rw [if_pos h]; exact propext ⟨fun z => ⟨h.1, h.2, z⟩, fun z => z.2.2⟩
          · rw [if_neg h]; exact propext ⟨fun z => z.elim, fun z => (h ⟨z.1, z.2.1⟩).elim⟩
        | _ => rfl
theorem setFldK_eq {L : List String} {i : Nat} {f : String} {d : D} : setFldK L i f ok d r = match slot? i r with
  | some (.node true (.ins c fs) ds) => c ∈ L ∧ fs.length < 1000 ∧ ok .nx (r.set i (some (.node true (.ins c (putF? fs ds f d).1) (putF? fs ds f d).2)))
  | _ => False := nr rfl
theorem putF?_nil {f : String} {y : D} : putF? [] [] f y = ([f], [y]) := nr rfl
theorem putF?_cons {g f : String} {gs : List String} {d y : D} {ds : List D} : putF? (g :: gs) (d :: ds) f y = if g = f then (g :: gs, y :: ds) else ((g :: (putF? gs ds f y).1), d :: (putF? gs ds f y).2) := nr rfl
def methBR (np : Nat) (fn : Fn) (d : D) (K : D → VS → Prop) (ex : String → VS → Prop) (ds : List D) (r : VS) : Prop := ds.length + 1 = np ∧ ((fn (d.frz :: D.frzL ds)).toB r).sat K ex
def methBL (c m : String) (np : Nat) (fn : Fn) (args : M (List D)) (K : D → VS → Prop) (ex : String → VS → Prop) (d : D) (r : VS) : Prop := isC c m d = true ∧ (args r).sat (methBR np fn d K ex) ex
theorem sat_methB {c m : String} {np : Nat} {fn : Fn} {o : M D} {args : M (List D)} : (mMethB c m np fn o args r).sat K ex = (o r).sat (methBL c m np fn args K ex) ex := by
  unfold mMethB; rw [sat_bind_eq]; congr 1; funext d r; rw [sat_bind_eq, sat_ck_eq]; unfold methBL; congr 1; rw [sat_bind_eq]; congr 1; funext ds r; rw [sat_bind_eq, sat_ck_eq]; simp only [decide_eq_true_eq, runB_toB]; rfl
theorem methBL_eq {c m : String} {np : Nat} {fn : Fn} {args : M (List D)} {d : D} : methBL c m np fn args K ex d r = (isC c m d = true ∧ (args r).sat (methBR np fn d K ex) ex) := rfl
theorem methBR_eq {np : Nat} {fn : Fn} {d : D} {ds : List D} : methBR np fn d K ex ds r = (ds.length + 1 = np ∧ ((fn (d.frz :: D.frzL ds)).toB r).sat K ex) := nr rfl
theorem isC_eq {c m c' : String} {o : Bool} {fs : List String} {ds : List D} : isC c m (.node o (.ins c' fs) ds) = (decide (c' = c) && fs.all fun f => !decide (f = m)) := nr rfl
/-- behind a call that gives back -/
def RF.back (cio : List Nat) (bk : List (Option Nat)) : RF → VS → R D := fun x r => match x with
  | .ok d os => (match putB r (cio.map fun j => (bk[j]?).join) os with | some r' => .ok d r' | none => .no)
  | .ex c os => (match putB r (cio.map fun j => (bk[j]?).join) os with | some r' => .ex c r' | none => .no)
  | .no => .no
def callIoK (fn : Fn) (cio : List Nat) (bk : List (Option Nat)) (K : D → VS → Prop) (ex : String → VS → Prop) (ds : List D) (r : VS) : Prop := (RF.back cio bk (fn ds) r).sat K ex
theorem sat_callIo {fn : Fn} {cio : List Nat} {bk : List (Option Nat)} {a : M (List D)} : (mCall fn cio bk a r).sat K ex = (a r).sat (callIoK fn cio bk K ex) ex := by
  unfold mCall; rw [sat_bind_eq]; congr 1
theorem callIoK_eq {fn : Fn} {cio : List Nat} {bk : List (Option Nat)} {ds : List D} : callIoK fn cio bk K ex ds r = (RF.back cio bk (fn ds) r).sat K ex := nr rfl
theorem back_ok {cio : List Nat} {bk : List (Option Nat)} {d : D} {os : List D} : RF.back cio bk (.ok d os) r = (match putB r (cio.map fun j => (bk[j]?).join) os with | some r' => .ok d r' | none => .no) := nr rfl
theorem back_ex {cio : List Nat} {bk : List (Option Nat)} {c : String} {os : List D} : RF.back cio bk (.ex c os) r = (match putB r (cio.map fun j => (bk[j]?).join) os with | some r' => .ex c r' | none => .no) := nr rfl
/-- self alone comes back -/
theorem back_ok0 {i : Nat} {bk : List (Option Nat)} {d o : D} (h : i < r.length) : RF.back [0] (some i :: bk) (.ok d [o]) r = .ok d (r.set i (some o)) := by
  show (match putB r [some i] [o] with | some r' => R.ok d r' | none => .no) = _
  simp [putB, h]
theorem back_ex0 {i : Nat} {bk : List (Option Nat)} {c : String} {o : D} (h : i < r.length) : (RF.back [0] (some i :: bk) (.ex c [o]) r : R D) = .ex c (r.set i (some o)) := by
  show (match putB r [some i] [o] with | some r' => (R.ex c r' : R D) | none => .no) = _
  simp [putB, h]
theorem sat_meth {c m : String} {i : Nat} {fn : Fn} {cio : List Nat} {bk : List (Option Nat)} {args : M (List D)} : (mMeth c m i fn cio bk args r).sat K ex = optK (slot? i r) r (fun d r => isC c m d = true ∧ (mCons (mMove i) args r).sat (callIoK fn cio (some i :: bk) K ex) ex) := by
  unfold mMeth
  cases slot? i r with
  | none => rfl
  | some d =>
    show (if isC c m d = true then _ else _ : R D).sat K ex = (isC c m d = true ∧ _)
    cases isC c m d with
    | false => exact propext ⟨fun z => z.elim, fun z => nomatch z.1⟩
    | true => rw [if_pos rfl, sat_callIo]; exact propext ⟨fun z => ⟨rfl, z⟩, fun z => z.2⟩
theorem toM_ok {d : D} : (RF.ok .non [d]).toM r = .ok d r := nr rfl
theorem toM_ex {c : String} {d : D} : (RF.ex c [d]).toM r = .ex c r := nr rfl
def makeK (c : String) (np : Nat) (fn : Fn) (K : D → VS → Prop) (ex : String → VS → Prop) (ds : List D) (r : VS) : Prop := ds.length + 1 = np ∧ ((fn (.node true (.ins c []) [] :: D.frzL ds)).toM r).sat K ex
theorem sat_make {c : String} {np : Nat} {fn : Fn} {a : M (List D)} : (mMake c np fn a r).sat K ex = (a r).sat (makeK c np fn K ex) ex := by
  unfold mMake; rw [sat_bind_eq]; congr 1; funext ds r; rw [sat_bind_eq, sat_ck_eq]; simp only [decide_eq_true_eq]; rfl
theorem makeK_eq {c : String} {np : Nat} {fn : Fn} {ds : List D} : makeK c np fn K ex ds r = (ds.length + 1 = np ∧ ((fn (.node true (.ins c []) [] :: D.frzL ds)).toM r).sat K ex) := nr rfl
/-- the answer of a body that gives back slot 0 -/
def ansK0 (P : RF → Prop) : Fl → VS → Prop := fun f r => match f with
  | .rt d => (match slot? 0 r with | some o => P (.ok d [o]) | none => False)
  | .nx => (match slot? 0 r with | some o => P (.ok .non [o]) | none => False)
  | _ => False
def ansX0 (P : RF → Prop) : String → VS → Prop := fun c r => match slot? 0 r with | some o => P (.ex c [o]) | none => False
theorem fn_sat0 {n : Nat} {b : M Fl} {as : List D} {P : RF → Prop} (h : (b (as.map some ++ List.replicate (n - as.length) none)).sat (ansK0 P) (ansX0 P)) : P (fnM n [0] b as) := by
  unfold fnM
  cases e : b (as.map some ++ List.replicate (n - as.length) none) with
  | no => rw [e] at h; exact h.elim
  | ex c r =>
    rw [e] at h
    have h : ansX0 P c r := h
    unfold ansX0 at h
    dsimp only [outs?] at h ⊢
    cases e2 : slot? 0 r with
    | none => rw [e2] at h; exact h.elim
    | some o => rw [e2] at h; exact h
  | ok f r =>
    rw [e] at h
    have h : ansK0 P f r := h
    unfold ansK0 at h
    cases f with
    | nx =>
      dsimp only [outs?] at h ⊢
      cases e2 : slot? 0 r with
      | none => rw [e2] at h; exact h.elim
      | some o => rw [e2] at h; exact h
    | rt d =>
      dsimp only [outs?] at h ⊢
      cases e2 : slot? 0 r with
      | none => rw [e2] at h; exact h.elim
      | some o => rw [e2] at h; exact h
    | bk => exact h.elim
    | ct => exact h.elim
theorem fn_is0 {n : Nat} {b : M Fl} {as : List D} {x : RF} (h : (b (as.map some ++ List.replicate (n - as.length) none)).sat (ansK0 (isR x)) (ansX0 (isR x))) : fnM n [0] b as = x := fn_sat0 (P := isR x) h
theorem ansK0_rt {P : RF → Prop} {d o : D} {r : VS} : ansK0 P (.rt d) (some o :: r) = P (.ok d [o]) := nr rfl
theorem ansK0_nx {P : RF → Prop} {o : D} {r : VS} : ansK0 P .nx (some o :: r) = P (.ok .non [o]) := nr rfl
theorem ansX0_eq {P : RF → Prop} {c : String} {o : D} {r : VS} : ansX0 P c (some o :: r) = P (.ex c [o]) := nr rfl
end
end
end VL

/-! VL24: facts of classes. -/
namespace VL
open PySem PySem.Spec L2
theorem fldOk_nil {K : PySem.W.Frag} {T : String → Option Addr} {f : String} : FldOk K T [] f := fun c hc => by simp at hc
theorem fldOk_cons {K : PySem.W.Frag} {cs : List String} {c f : String} {L : List String} (h1 : Cls K (He.ga K (Str.ofString c))) (h2 : NoAttr K (He.ga K (Str.ofString c)) (Str.ofString f)) (h : FldOk K (clT cs K) L f) : FldOk K (clT cs K) (c :: L) f := fun x hx C hT => by
  rcases List.mem_cons.mp hx with rfl | hx
  · obtain ⟨_, rfl⟩ := clT_of hT
    exact ⟨h1, h2⟩
  · exact h x hx C hT
end VL

/-! VL25: x in o, o of an own class; isinstance(x, C), C an own class. -/
namespace VL
open PySem PySem.Spec L2
/-! ### x in o -/
def tInO (C : Addr) (neg : Bool) (sp : Sp) (E : L2.St → XK) (ta tb : TE) : TE := fun σ H Q => ta σ H fun x H1 => tb σ H1 fun y H2 => ∃ o dx fs, y = .ref o ∧ H2 o = some (.ins C dx fs) ∧ sp [y, x] H2 (fun z H' => ∃ b, z = .bl b ∧ Q (.bl (neg != b)) H') (E σ)
section
variable {X : Cx} {CX : CXT} {k : Nat} {C f : Addr} {fd : FuncData} {ps : List Str} {sp : Sp} {E : L2.St → XK} {a b : Expr} {ta tb : TE}
theorem pc_inO (ha : PE X a ta) (hb : PE X b tb) (hm : Meth X.K C "__contains__" f) (F : FnOk X.prog X.w X.K X.mg X.base CX k f fd ps sp) (hr : Room k X.A) (hbn : Binds X.K fd ps []) (hx : ∀ σ, PassesAt CX X σ (E σ)) : PC X .In a b (tInO C false sp E ta tb) := ⟨fun pins s σ H Q I h => by
  refine binT ha hb I h fun v u s2 x y H2 I2 rx ry q => ?_
  obtain ⟨o, dx, fs, rfl, e, q⟩ := q
  cases (show u = Value.ref o from ry)
  obtain ⟨mA, O, r, _, _, _⟩ := ins_get I2.hok e
  obtain ⟨od, J, _⟩ := O.look
  obtain ⟨m', F'⟩ := I2.fr
  refine PySem.W.in_K F' I2.ok.mod.kin J hm.at_ hm.fn (thn (run_fnS (us := [.ref o, v]) (vs := [.ref o, x]) F hr hbn (hx σ) I2 (.cons rfl (.cons rx .nil)) q) fun z s3 w => ?_)
  obtain ⟨z', H3, I3, rz, bb, rfl, q⟩ := w
  cases rz
  exact wpAny_truthy_bool ⟨_, H3, I3, by cases bb <;> rfl, q⟩⟩
theorem pc_notInO (ha : PE X a ta) (hb : PE X b tb) (hm : Meth X.K C "__contains__" f) (F : FnOk X.prog X.w X.K X.mg X.base CX k f fd ps sp) (hr : Room k X.A) (hbn : Binds X.K fd ps []) (hx : ∀ σ, PassesAt CX X σ (E σ)) : PC X .NotIn a b (tInO C true sp E ta tb) := ⟨fun pins s σ H Q I h => by
  refine binT ha hb I h fun v u s2 x y H2 I2 rx ry q => ?_
  obtain ⟨o, dx, fs, rfl, e, q⟩ := q
  cases (show u = Value.ref o from ry)
  obtain ⟨mA, O, r, _, _, _⟩ := ins_get I2.hok e
  obtain ⟨od, J, _⟩ := O.look
  obtain ⟨m', F'⟩ := I2.fr
  refine PySem.W.notIn_K F' I2.ok.mod.kin J hm.at_ hm.fn (thn (run_fnS (us := [.ref o, v]) (vs := [.ref o, x]) F hr hbn (hx σ) I2 (.cons rfl (.cons rx .nil)) q) fun z s3 w => ?_)
  obtain ⟨z', H3, I3, rz, bb, rfl, q⟩ := w
  cases rz
  exact wpAny_truthy_bool ⟨_, H3, I3, by cases bb <;> rfl, q⟩⟩
end
def mInO (c : String) (neg : Bool) (fn : Fn) (a o : M D) : M D := M.bind a fun x => M.bind o fun d => M.bind (M.ck (isC c "__contains__" d)) fun _ => M.bind (runB fn (D.frzL [d, x])) fun z => M.opt (z.bl?.map fun b => .bl (neg != b))
section
variable {T : String → Option Addr} {io : Io} {X : Cx} {W : WX} {p p1 p2 : Bool} {pos : Pos}
theorem inO_imp {K : PySem.W.Frag} {G : Gm} {c : String} {C : Addr} {neg : Bool} {fn : Fn} {ma mb : M D} {σ : L2.St} {H : Hp} {Q : VK} (hT : T c = some C) (h : tE K T G W p (mInO c neg fn ma mb) σ H Q) : tInO C neg (spV K T 2 [] fn) (WE W) (tB K T G W p ma) (tB K T G W true mb) σ H Q := by
  obtain ⟨F0, r, t, tv, h1, h2⟩ := h
  refine ⟨F0, r, t, tv, h1, (sat_bind h2).mono (fun d r1 q v F1 H1 s1 z1 h3 lk => ?_) fun _ _ q => q⟩
  refine ⟨F1, r1, t, tv, h3, (sat_bind q).mono (fun d2 r2 q v2 F2 H2 s2 z2 h4 lk2 => ?_) fun _ _ q => q.trans s1⟩
  obtain ⟨hi, q⟩ := sat_ck (sat_bind q)
  obtain ⟨a', dx, fs, rfl, hH, hl⟩ := isC_lk hi hT lk2 h4.sub
  refine ⟨a', dx, _, rfl, hH, ?_⟩
  refine callB_imp (ds := [d2, d]) (.cons lk2 (.cons (lk.mono s2 (z2 rfl)) .nil)) rfl h4 ((sat_bind q).mono (fun z r' q v H' z3 h5 => ?_) fun _ _ q => q.trans (s1.trans s2))
  obtain ⟨d', e, q⟩ := sat_opt q
  cases e1 : z.bl? with
  | none => rw [e1] at e; cases e
  | some b =>
    rw [e1] at e
    cases e
    have ez := D.bl?_eq e1
    subst ez
    have ev := lk_leaf h5.top
    subst ev
    exact ⟨b, rfl, q _ F2 H' (s1.trans s2) (fun z => ((z1 z).trans (z2 rfl)).trans z3) (h5.drop.push (.leaf rfl))⟩
theorem qe_inO {c : String} {C f : Addr} {k : Nat} {fd : FuncData} {ps : List Str} {fn : Fn} {a b : Expr} {ma mb : M D} (hT : T c = some C) (hc : Cls X.K C) (hm : Meth X.K C "__contains__" f)
    (F : FnOk X.prog X.w X.K X.mg X.base (L2.CX X.prog X.w) k f fd ps (spV X.K T 2 [] fn)) (hr : Room k X.A) (hb : Binds X.K fd ps []) (tk : Takes X W) (ha : QB T io X W p a ma) (ho : QB T io X W true b mb) (hk : behindInMarks .In b = false) :
    QE T io X W p (.Compare a [.In] [b] pos) (mInO c false fn ma mb) := fun G g => PE.imp (pe_cmp (pc_inO (ha G g) (ho G g) hm F hr hb (fun σ => passAt tk σ)) hk) fun _ _ _ h => inO_imp hT h
theorem qe_notInO {c : String} {C f : Addr} {k : Nat} {fd : FuncData} {ps : List Str} {fn : Fn} {a b : Expr} {ma mb : M D} (hT : T c = some C) (hc : Cls X.K C) (hm : Meth X.K C "__contains__" f)
    (F : FnOk X.prog X.w X.K X.mg X.base (L2.CX X.prog X.w) k f fd ps (spV X.K T 2 [] fn)) (hr : Room k X.A) (hb : Binds X.K fd ps []) (tk : Takes X W) (ha : QB T io X W p a ma) (ho : QB T io X W true b mb) (hk : behindInMarks .NotIn b = false) :
    QE T io X W p (.Compare a [.NotIn] [b] pos) (mInO c true fn ma mb) := fun G g => PE.imp (pe_cmp (pc_notInO (ha G g) (ho G g) hm F hr hb (fun σ => passAt tk σ)) hk) fun _ _ _ h => inO_imp hT h
theorem qt_inO {c : String} {C f : Addr} {k : Nat} {fd : FuncData} {ps : List Str} {fn : Fn} {a b : Expr} {ma mb : M D} (hT : T c = some C) (hc : Cls X.K C) (hm : Meth X.K C "__contains__" f)
    (F : FnOk X.prog X.w X.K X.mg X.base (L2.CX X.prog X.w) k f fd ps (spV X.K T 2 [] fn)) (hr : Room k X.A) (hb : Binds X.K fd ps []) (tk : Takes X W) (ha : QB T io X W p a ma) (ho : QB T io X W true b mb) (hk : behindInMarks .In b = false) :
    QT T io X W p (.Compare a [.In] [b] pos) (mTest (mInO c false fn ma mb)) := fun G g => PT.imp (pt_cmp (pc_inO (ha G g) (ho G g) hm F hr hb (fun σ => passAt tk σ)) hk) fun _ _ _ h => inO_imp hT (impTE h)
theorem qt_notInO {c : String} {C f : Addr} {k : Nat} {fd : FuncData} {ps : List Str} {fn : Fn} {a b : Expr} {ma mb : M D} (hT : T c = some C) (hc : Cls X.K C) (hm : Meth X.K C "__contains__" f)
    (F : FnOk X.prog X.w X.K X.mg X.base (L2.CX X.prog X.w) k f fd ps (spV X.K T 2 [] fn)) (hr : Room k X.A) (hb : Binds X.K fd ps []) (tk : Takes X W) (ha : QB T io X W p a ma) (ho : QB T io X W true b mb) (hk : behindInMarks .NotIn b = false) :
    QT T io X W p (.Compare a [.NotIn] [b] pos) (mTest (mInO c true fn ma mb)) := fun G g => PT.imp (pt_cmp (pc_notInO (ha G g) (ho G g) hm F hr hb (fun σ => passAt tk σ)) hk) fun _ _ _ h => inO_imp hT (impTE h)

/-! ### isinstance(x, C) -/
/-- what a class must be for isinstance -/
def insB (cs : List String) (c : String) (l : List String) (K : PySem.W.Frag) : Bool :=
  (["NoneType", "bool", "int", "str", "list", "tuple", "dict"].all fun t => decide (PySem.W.kitOne K (.type t) (.ref (He.ga K (Str.ofString c))) = some false)) &&
  (cs.all fun x => decide (PySem.W.kitOne K (.ref (He.ga K (Str.ofString x))) (.ref (He.ga K (Str.ofString c))) = some (decide (x ∈ l))) && (decide (PySem.W.findIn K (.ref (He.ga K (Str.ofString x))) "__class__" = some (some (.builtin "object.__class__"))) && decide (PySem.W.mroIn K (He.ga K (Str.ofString x)) (.type "object") = some true))) &&
  (decide (PySem.W.specialIn K (.builtin "object.__class__") "__get__" = some (some (.builtin "getset_descriptor.__get__"))) && decide (PySem.W.takesIn K (.builtin "object.__class__") = some true))
/-- isinstance(x, C): l holds the classes that are C or below -/
def fIsC (cs l : List String) : D → Option D
  | .node _ (.ins c _) _ => if c ∈ cs then some (.bl (decide (c ∈ l))) else none
  | d => if noIns d = true then some (.bl false) else none
theorem isC_ok {K : PySem.W.Frag} {cs l cl : List String} {c : String} (h : insB cs c l K = true) (hcl : ∀ x ∈ cl, x ∈ cs ∧ Cls K (He.ga K (Str.ofString x))) {F H : Hp} {d d' : D} {v : V} (e : fIsC cl l d = some d') (lk : Lk K (clT cs K) F H d v) (s : Same F H) :
    ∃ t b, d' = .bl b ∧ TyX K H v t ∧ PySem.W.kitOne K t (.ref (He.ga K (Str.ofString c))) = some b := by
  unfold insB at h
  obtain ⟨h12, h3⟩ := Bool.and_eq_true_iff.mp h
  obtain ⟨h1, h2⟩ := Bool.and_eq_true_iff.mp h12
  obtain ⟨h3, h4⟩ := Bool.and_eq_true_iff.mp h3
  have base : ∀ d, noIns d = true → Lk K (clT cs K) F H d v → ∃ t b, D.bl false = .bl b ∧ TyX K H v t ∧ PySem.W.kitOne K t (.ref (He.ga K (Str.ofString c))) = some b := fun d hn lk =>
    ⟨.type (tyD d), false, rfl, ty_lk lk s hn, of_decide_eq_true (List.all_eq_true.mp h1 _ (tyD_mem d))⟩
  unfold fIsC at e
  split at e
  · rename_i o x fs ds
    split at e
    · rename_i hx
      cases e
      obtain ⟨hxc, k1⟩ := hcl x hx
      have k := List.all_eq_true.mp h2 x hxc
      obtain ⟨k2, k3⟩ := Bool.and_eq_true_iff.mp k
      obtain ⟨k3, k4⟩ := Bool.and_eq_true_iff.mp k3
      obtain ⟨a', vs, rfl, hn, hl⟩ := lk.node s
      obtain ⟨_, C', dx, hT', hH, hd⟩ := hn
      obtain ⟨_, rfl⟩ := clT_of hT'
      exact ⟨_, _, rfl, .base (.ins hH k1 (of_decide_eq_true k3) (of_decide_eq_true h3) (of_decide_eq_true h4) (of_decide_eq_true k4)), of_decide_eq_true k2⟩
    · cases e
  · split at e
    · rename_i hn
      cases e
      exact base _ hn lk
    · cases e
def mIsC (cl l : List String) (a : M D) : M D := mOp1 (fIsC cl l) a
theorem qe_isC {cs l cl : List String} {c : String} {a ce : Expr} {p0 : Pos} {ma : M D} (h : insB cs c l X.K = true) (hcl : ∀ x ∈ cl, x ∈ cs ∧ Cls X.K (He.ga X.K (Str.ofString x))) (ha : QB (clT cs X.K) io X W p a ma) (hc : PE X ce (tC (.ref (He.ga X.K (Str.ofString c))))) (hg : Gl X "isinstance") (hm : X.mg "isinstance" = none)
    (hs1 : starEach [a, ce] X.env = (false, eval a X.env) :: starEach [ce] X.env := by rfl) (hs2 : starEach [ce] X.env = [(false, eval ce X.env)] := by rfl) : QE (clT cs X.K) io X W p (.Call (.Name "isinstance" p0) [a, ce] [] pos) (mIsC cl l ma) :=
  fun G g => PE.imp (pe_callB call_isi hg hm (by decide +kernel) (pa_cons (ha G g) (pa_cons hc pa_nil hs2) hs1) (he := hs1) (hpl := by rw [hs2]; rfl)) fun σ H Q ⟨F, r, t, tv, h1, h2⟩ => by
    refine ⟨F, r, t, tv, h1, (sat_bind h2).mono (fun d r1 q v F1 H1 s1 s2 h3 lk => ?_) fun _ _ q => q⟩
    obtain ⟨d', e, q⟩ := sat_opt q
    obtain ⟨ty, b, rfl, k1, k2⟩ := isC_ok h hcl e lk h3.sub
    exact ⟨v, _, ty, _, b, rfl, .own _, k1, k2, q (.bl _) F1 H1 s1 s2 (h3.push (.leaf rfl))⟩
end
section
variable {r : VS} {ex : String → VS → Prop} {K : D → VS → Prop}
def blO (neg : Bool) (K : D → VS → Prop) (d : D) (r : VS) : Prop := optK (d.bl?.map fun b => .bl (neg != b)) r K
def inOR (c : String) (neg : Bool) (fn : Fn) (x : D) (K : D → VS → Prop) (ex : String → VS → Prop) (d : D) (r : VS) : Prop := isC c "__contains__" d = true ∧ ((fn (D.frzL [d, x])).toB r).sat (blO neg K) ex
def inOL (c : String) (neg : Bool) (fn : Fn) (o : M D) (K : D → VS → Prop) (ex : String → VS → Prop) (x : D) (r : VS) : Prop := (o r).sat (inOR c neg fn x K ex) ex
theorem sat_inO {c : String} {neg : Bool} {fn : Fn} {a o : M D} : (mInO c neg fn a o r).sat K ex = (a r).sat (inOL c neg fn o K ex) ex := by
  unfold mInO; rw [sat_bind_eq]; congr 1; funext x r; rw [sat_bind_eq]; unfold inOL; congr 1; funext d r; rw [sat_bind_eq, sat_ck_eq, sat_bind_eq, runB_toB]; unfold inOR; congr 2; funext z r; exact sat_opt_eq
theorem inOL_eq {c : String} {neg : Bool} {fn : Fn} {o : M D} {x : D} : inOL c neg fn o K ex x r = (o r).sat (inOR c neg fn x K ex) ex := by unfold inOL; exact (Eq.refl _)
theorem inOR_eq {c : String} {neg : Bool} {fn : Fn} {x d : D} : inOR c neg fn x K ex d r = (isC c "__contains__" d = true ∧ ((fn (D.frzL [d, x])).toB r).sat (blO neg K) ex) := by unfold inOR; exact (Eq.refl _)
theorem blO_bl {neg b : Bool} : blO neg K (.bl b) r = K (.bl (neg != b)) r := by unfold blO; exact (Eq.refl _)
theorem sat_isC {cl l : List String} {a : M D} : (mIsC cl l a r).sat K ex = (a r).sat (op1K (fIsC cl l) K) ex := sat_op1
theorem fIsC_ins {cl l : List String} {o : Bool} {c : String} {fs : List String} {ds : List D} : fIsC cl l (.node o (.ins c fs) ds) = if c ∈ cl then some (.bl (decide (c ∈ l))) else none := by unfold fIsC; exact (Eq.refl _)
theorem fIsC_non {cl l : List String} : fIsC cl l .non = some (.bl false) := by unfold fIsC; exact (Eq.refl _)
end
end VL

/-! VL26: a method called with keywords; all arguments leaves. -/
namespace VL
open PySem PySem.Spec L2
section
variable {X : Cx} {CX : CXT} {k n : Nat} {C f : Addr} {m : Str} {fd : FuncData} {ps ks : List Str} {sp : Sp} {o e : Expr} {es : List Expr} {kws : List Keyword} {ta : TE} {t tk : TA} {apos pos : Pos} {pl : Sem Bool} {g : List Value → List Value → List Value} {gV : List V → List V → List V}
theorem run_fnNS {σ : L2.St} {E : XK} {pins : List (Addr × Obj)} {H : Hp} {s : Shared} {Q : VK} {us ws : List Value} {vs zs : List V} (F : FnOk X.prog X.w X.K X.mg X.base CX k f fd ps sp) (hr : Room k X.A) (hb : KBn X.K fd ps n ks g gV) (hx : PassesAt CX X σ E)
    (I : Inv X pins σ H s) (r : Vals vs us) (rz : Vals zs ws) (l1 : vs.length = n) (l2 : zs.length = ks.length) (h : sp (gV vs zs) H Q E) : wpAny (model X.prog X.w) X.A (call (.ref f) us (ks.zip ws)) (EP X pins σ Q) X.xe s := by
  have r2 := hb.rel r rz
  refine wpAny_call (codeAny_mono (F.run X.A X.stack s H ⟨us, ks.zip ws⟩ (g us ws) (gV vs zs) Q E hr I.env0 (hb.to s us ws I.kIn (r.length.symm.trans l1) (rz.length.symm.trans l2)) r2 h) fun r s' hq => ?_)
  cases r with
  | error e => exact hx pins H s e s' I hq
  | ok fl =>
    cases fl with
    | ret u => exact I.after hq
    | next => exact False.elim hq
    | brk => exact False.elim hq
    | cont => exact False.elim hq
def tMethK (C : Addr) (m : Str) (n nk : Nat) (sp : Sp) (gV : List V → List V → List V) (E : L2.St → XK) (ta : TE) (t tk : TA) : TE := fun σ H Q => ta σ H fun x H1 => ∃ a dx fs, x = .ref a ∧ H1 a = some (.ins C dx fs) ∧ fs.lookup m = none ∧ t σ H1 fun vs H2 => tk σ H2 fun zs H3 => vs.length + 1 = n ∧ zs.length = nk ∧ sp (gV (x :: vs) zs) H3 Q (E σ)
theorem pe_methK {E : L2.St → XK} (he : PE X o ta) (c : Cls X.K C) (hm : Meth X.K C m f) (F : FnOk X.prog X.w X.K X.mg X.base CX k f fd ps sp) (hr : Room k X.A) (hb : KBn X.K fd ps n ks g gV) (hx : ∀ σ, PassesAt CX X σ (E σ)) (ha : PA X (e :: es) t) (hk : PK X kws tk)
    (hall : (backToKw pos (keywordEach kws X.env)).all (·.1.isSome) = true := by rfl) (hks : (backToKw pos (keywordEach kws X.env)).filterMap (·.1) = ks := by rfl)
    (hst : starEach (e :: es) X.env = (false, eval e X.env) :: starEach es X.env := by rfl) (hpl : ((backTo pos (starEach (e :: es) X.env)).any (·.1) || (backToKw pos (keywordEach kws X.env)).any (·.1.isNone)) = false := by rfl)
    (ht : eval (.Call (.Attribute o m apos) (e :: es) kws pos) X.env = (do let ov ← eval o X.env; standAt apos.atName; let (g, first) ← holding [ov] (getMethod ov m pl); callWith pos g first (backTo pos (starEach (e :: es) X.env)) (backToKw pos (keywordEach kws X.env))) := by rfl) :
    PE X (.Call (.Attribute o m apos) (e :: es) kws pos) (tMethK C m n ks.length sp gV E ta t tk) := ⟨fun pins s σ H Q I h => by
  refine PySem.W.methodCall_KW (pl := pl) (thn (he.run pins s σ H _ I h) fun u s1 z => ?_) ht
  obtain ⟨x, H1, I1, rx, a, dx, fs, ex, ea, l, q⟩ := z
  subst ex
  cases rx
  refine getmeth_ok I1 ea c hm l (PySem.W.callWith_KW (first := [.ref a]) (h₀ := X.base) I.ok.mod.kin hm.kp hall (thn (ha.run pos pins s1 σ H1 _ I1 q) fun us s2 y => ?_) hpl hst)
  obtain ⟨vs, H2, I2, r, q2⟩ := y
  refine thn (hk.run pos pins s2 σ H2 _ I2 q2) fun ws s3 ⟨zs, H3, I3, rz, l1, l2, q3⟩ => ⟨I3.kIn, ?_⟩
  rw [hks]
  exact run_fnNS (us := .ref a :: us) (vs := .ref a :: vs) F hr hb (hx σ) I3 (.cons rfl r) rz (by simpa using l1) l2 q3⟩
end
section
variable {K : PySem.W.Frag} {x qual : Str} {params : Arguments} {body : List Stmt} {scope : Scope} {kws : List (Str × V)} {f : Addr} {fd : FuncData} {ps : List Str}
/-- the keywords fill the last parameters, in order -/
theorem FunD_kbn0 (F : FunD K x qual params body scope [] kws f fd) (n : Nat) (ks : List Str)
    (h : ∀ (kV doc pm : Value) (an : Option Addr) (cdv ct : Value) (us ws : List Value), us.length = n → ws.length = ks.length → bindArgs (PySem.W.fnOf x qual params body scope .none kV doc pm an cdv ct) ⟨us, ks.zip ws⟩ = pure (ps.zip (us ++ ws))) :
    KBn K fd ps n ks (fun us ws => us ++ ws) (fun vs zs => vs ++ zs) := by
  obtain ⟨oc, od, dV, kV, doc, pm, an, cdv, ct, osl, rfl, lk, hcd, hD, hK⟩ := F.ex
  rcases hD with ⟨_, rfl⟩ | ⟨e, _⟩
  · exact ⟨fun s us ws X l1 l2 => .of_eq (h kV doc pm an cdv ct us ws l1 l2), fun r1 r2 => r1.append r2⟩
  · exact absurd rfl e
end
section
variable (T : String → Option Addr) (io : Io) (X : Cx) (W : WX)
def QKB (kws : List Keyword) (m : M (List D)) : Prop := ∀ G, Pins io G → PK X kws (tAB X.K T G W true m)
end
def isLf : D → Bool
  | .leaf _ => true
  | _ => false
def mMethK (c m : String) (i : Nat) (fn : Fn) (cio : List Nat) (np nk : Nat) (args kws : M (List D)) : M D := fun r => match slot? i r with
  | some d => if isC c m d = true then (M.bind args fun ds => M.bind kws fun es => M.bind (M.ck (decide (ds.length + 1 = np) && (decide (es.length = nk) && (ds ++ es).all isLf))) fun _ => fun r => match slot? i r with
    | some d => mCall fn cio (some i :: List.replicate (ds ++ es).length none) (M.ret (d :: (ds ++ es))) (r.set i none)
    | none => .no) r else .no
  | none => .no
theorem lfs_fz {K : PySem.W.Frag} {T : String → Option Addr} {F H : Hp} : ∀ {ds : List D} {vs : List V}, ds.all isLf = true → LkL K T F H ds vs → FzL K T F ds vs
  | [], _, _, h => by cases h; exact .nil
  | d :: ds, _, hl, h => by
    cases h with
    | cons h1 h2 =>
      simp only [List.all_cons, Bool.and_eq_true] at hl
      refine .cons ?_ (lfs_fz hl.2 h2)
      cases d with
      | leaf s => cases h1 with | leaf z => exact .leaf z
      | node => cases hl.1
section
variable {T : String → Option Addr} {io : Io} {X : Cx} {W : WX} {p p1 p2 : Bool} {pos : Pos}
theorem qkb_nil : QKB T io X W [] mNil := fun G g => ⟨fun pos pins s σ H Q I ⟨F, r, t, tv, h1, h2⟩ => pk_nil.run pos pins s σ H Q I (h2 [] F H (Same.refl _) (fun _ => Same.refl _) h1 .nil)⟩
theorem qkb_cons {nm : Option Str} {e : Expr} {kpos : Pos} {kws : List Keyword} {a : M D} {b : M (List D)} (ha : QB T io X W true e a) (hb : QKB T io X W kws b) : QKB T io X W (⟨nm, e, kpos⟩ :: kws) (mCons a b) :=
  fun G g => ⟨fun pos pins s σ H Q I ⟨F, r, t, tv, h1, h2⟩ => (pk_cons (ha G g) (hb G g)).run pos pins s σ H Q I (by
    refine ⟨F, r, t, tv, h1, (sat_bind h2).mono (fun d r1 q v F1 H1 s1 s2 h3 lk => ?_) fun _ _ q => q⟩
    refine ⟨F1, r1, t, tv, h3, (sat_bind q).mono (fun ds r2 q vs F2 H2 s3 s4 h4 lks => ?_) fun c r' q => q.trans s1⟩
    exact q (v :: vs) F2 H2 (s1.trans s3) (fun z => (s2 z).trans (s4 rfl)) h4 (.cons (lk.mono s3 (s4 rfl)) lks))⟩
theorem LkL_append {K : PySem.W.Frag} {F H : Hp} : ∀ {ds es : List D} {vs ws : List V}, LkL K T F H ds vs → LkL K T F H es ws → LkL K T F H (ds ++ es) (vs ++ ws)
  | [], _, _, _, h, h' => by cases h; exact h'
  | _ :: _, _, _, _, h, h' => by cases h with | cons a b => exact .cons a (LkL_append b h')
theorem qe_methK {c m : String} {C f : Addr} {k np n i : Nat} {x : Str} {fd : FuncData} {ps ks : List Str} {fn : Fn} {cio : List Nat} {e : Expr} {es : List Expr} {kws : List Keyword} {a b : M (List D)} {xpos apos : Pos} {pl : Sem Bool} (hT : T c = some C) (hc : Cls X.K C) (hm : Meth X.K C (Str.ofString m) f)
    (F : FnOk X.prog X.w X.K X.mg X.base (L2.CX X.prog X.w) k f fd ps (spV X.K T np cio fn)) (hr : Room k X.A) (hb : KBn X.K fd ps n ks (fun us ws => us ++ ws) (fun us ws => us ++ ws)) (tk : Takes X W) (hnp : n + ks.length = np) (hN : X.N[i]? = some x) (hv : Vis X.env.scope x) (ha : QAB T io X W true (e :: es) a) (hkw : QKB T io X W kws b)
    (hd : (x == ("__debug__" : Str)) = false := by decide) (hcd : (x == ("__classdict__" : Str)) = false := by decide)
    (hall : (backToKw pos (keywordEach kws X.env)).all (·.1.isSome) = true := by rfl) (hks : (backToKw pos (keywordEach kws X.env)).filterMap (·.1) = ks := by rfl)
    (hst : starEach (e :: es) X.env = (false, eval e X.env) :: starEach es X.env := by rfl) (hpl : ((backTo pos (starEach (e :: es) X.env)).any (·.1) || (backToKw pos (keywordEach kws X.env)).any (·.1.isNone)) = false := by rfl)
    (ht : eval (.Call (.Attribute (.Name x xpos) (Str.ofString m) apos) (e :: es) kws pos) X.env = (do let ov ← eval (.Name x xpos) X.env; standAt apos.atName; let (g, first) ← holding [ov] (getMethod ov (Str.ofString m) pl); callWith pos g first (backTo pos (starEach (e :: es) X.env)) (backToKw pos (keywordEach kws X.env))) := by rfl) :
    QE T io X W false (.Call (.Attribute (.Name x xpos) (Str.ofString m) apos) (e :: es) kws pos) (mMethK c m i fn cio n ks.length a b) := fun G g =>
  PE.imp (pe_methK (pe_var hN hv hd hcd) hc hm F hr hb (fun σ => passAt tk σ) (ha G g) (hkw G g) hall hks hst hpl ht) fun σ H Q ⟨F0, r, t, tv, h1, h2⟩ => by
    unfold mMethK at h2
    split at h2
    · rename_i d e1
      split at h2
      · rename_i hi
        obtain ⟨v, ev, h3⟩ := h1.take (slot?_eq e1)
        obtain ⟨a', dx, fs, rfl, hH, hl⟩ := isC_lk hi hT h3.top h3.sub
        refine ⟨_, ev, a', dx, fs, rfl, hH, hl, F0, r, t, tv, h1, (sat_bind h2).mono (fun ds r2 q vs F2 H2 s2 z2 h4 lk2 => ?_) fun _ _ q => q⟩
        refine ⟨F2, r2, t, tv, h4, (sat_bind q).mono (fun es' r3 q zs F3 H3 s3 z3 h5 lk3 => ?_) fun _ _ q => q.trans s2⟩
        obtain ⟨hn, q⟩ := sat_ck (sat_bind q)
        obtain ⟨hn1, hn⟩ := Bool.and_eq_true_iff.mp hn
        obtain ⟨hn2, hn3⟩ := Bool.and_eq_true_iff.mp hn
        have hn1 := of_decide_eq_true hn1
        have hn2 := of_decide_eq_true hn2
        have l1 := lk2.length
        have l2 := lk3.length
        refine ⟨by rw [← l1]; exact hn1, by rw [← l2]; exact hn2, ?_⟩
        cases e2 : slot? i r3 with
        | none => rw [e2] at q; exact q.elim
        | some d2 =>
          rw [e2] at q
          obtain ⟨v', ev', h6⟩ := h5.take (slot?_eq e2)
          have evv : v' = .ref a' := by rw [ev] at ev'; cases ev'; rfl
          subst evv
          have lk4 := LkL_append (lk2.mono s3 (z3 rfl)) lk3
          have h7 := h6.pushL (lfs_fz hn3 lk4)
          have hlen : (ds ++ es').length = (vs ++ zs).length := by simp [l1, l2]
          refine call_imp (bk := some i :: List.replicate (ds ++ es').length none) (ds := d2 :: (ds ++ es')) (vs := .ref a' :: (vs ++ zs)) (by simp [l1, l2]) (by simp only [List.length_cons, List.length_append]; omega) (fun j i' e => ?_) (Rl.lift hlen h7) (R.sat.mono q (fun d' r' q v F' H' s5 h5 => q v F' H' ((s2.trans s3).trans s5) (fun z => nomatch z) h5) fun _ _ q => q.trans (s2.trans s3))
          cases j with
          | zero => simp at e; subst e; exact ⟨_, rfl, ev⟩
          | succ j =>
            rw [List.getElem?_cons_succ, List.getElem?_replicate] at e
            split at e <;> cases e
      · exact h2.elim
    · exact h2.elim
/-! ### a leaf, then something that writes -/
def mLf (a : M D) : M D := M.bind a fun d => M.bind (M.ck (isLf d)) fun _ => M.ret d
theorem lf_lk {K : PySem.W.Frag} {F H F' H' : Hp} {d : D} {v : V} (h : isLf d = true) (lk : Lk K T F H d v) : Lk K T F' H' d v := by
  cases d with
  | leaf s => cases lk with | leaf z => exact .leaf z
  | node => cases h
theorem imp2L {K : PySem.W.Frag} {G : Gm} {f : D → D → Option D} {r : R2} {a b : M D} {σ : L2.St} {H : Hp} {Q : VK} (hf : Op2 K T f r) (h : tE K T G W (p1 && p2) (mOp2 f (mLf a) b) σ H Q) : tOp r (tB K T G W p1 a) (tB K T G W p2 b) σ H Q := by
  obtain ⟨F, r0, t, tv, h1, h2⟩ := h
  refine ⟨F, r0, t, tv, h1, (sat_bind (sat_bind h2)).mono (fun d r1 q v F1 H1 s1 s2 h3 lk => ?_) fun _ _ q => q⟩
  obtain ⟨hl, q⟩ := sat_ck (sat_bind q)
  refine ⟨F1, r1, t, tv, h3, (sat_bind q).mono (fun d2 r2 q v2 F2 H2 s3 s4 h4 lk2 => ?_) fun _ _ q => q.trans s1⟩
  obtain ⟨d', e2, q⟩ := sat_opt q
  refine hf F2 H2 d d2 v v2 d' Q e2 h4.sub (lf_lk hl lk) lk2 fun u H5 w => ?_
  obtain ⟨F3, s6, h5, s5⟩ := h4.res w
  exact q u F3 H5 ((s1.trans s3).trans s6) (fun z => ((s2 (andL z)).trans (s4 (andR z))).trans s5) h5
theorem qe_op2L {pp : Bool} {op : Operator} {r : R2} {f : D → D → Option D} {a b : Expr} {ma mb : M D} (ho : OpR X (binaryOp op) r) (hf : Op2 X.K T f r) (ha : QB T io X W p1 a ma) (hb : QB T io X W p2 b mb) (hpp : (p1 && p2) = pp := by rfl) : QE T io X W pp (.BinOp a op b pos) (mOp2 f (mLf ma) mb) := by
  subst hpp
  exact fun G g => PE.imp (pe_op ho (ha G g) (hb G g)) fun _ _ _ h => imp2L hf h
theorem qab_consL {pp : Bool} {e : Expr} {es : List Expr} {a : M D} {b : M (List D)} (ha : QB T io X W p1 e a) (hb : QAB T io X W p2 es b) (hs : starEach (e :: es) X.env = (false, eval e X.env) :: starEach es X.env := by rfl) (hpp : (p1 && p2) = pp := by rfl) : QAB T io X W pp (e :: es) (mCons (mLf a) b) := by
  subst hpp
  exact fun G g => PA.imp (pa_cons (ha G g) (hb G g) hs) fun σ H Q ⟨F, r, t, tv, h1, h2⟩ => by
    refine ⟨F, r, t, tv, h1, (sat_bind (sat_bind h2)).mono (fun d r1 q v F1 H1 s1 s2 h3 lk => ?_) fun _ _ q => q⟩
    obtain ⟨hl, q⟩ := sat_ck (sat_bind q)
    refine ⟨F1, r1, t, tv, h3, (sat_bind q).mono (fun ds r2 q vs F2 H2 s3 s4 h4 lks => ?_) fun c r' q => q.trans s1⟩
    exact q (v :: vs) F2 H2 (s1.trans s3) (fun z => (s2 (andL z)).trans (s4 (andR z))) h4 (.cons (lf_lk hl lk) lks)
end
section
variable {r : VS} {ex : String → VS → Prop} {K : D → VS → Prop}
def lfK (K : D → VS → Prop) (d : D) (r : VS) : Prop := isLf d = true ∧ K d r
theorem sat_lf {a : M D} : (mLf a r).sat K ex = (a r).sat (lfK K) ex := by
  unfold mLf; rw [sat_bind_eq]; congr 1; funext d r; rw [sat_bind_eq, sat_ck_eq]; rfl
theorem lfK_leaf {s : Sc} : lfK K (.leaf s) r = K (.leaf s) r := propext ⟨fun z => z.2, fun z => ⟨rfl, z⟩⟩
def methKE (i : Nat) (fn : Fn) (cio : List Nat) (K : D → VS → Prop) (ex : String → VS → Prop) (l : List D) (d : D) (r : VS) : Prop := (RF.back cio (some i :: List.replicate l.length none) (fn (d :: l)) (r.set i none)).sat K ex
def methKR (i : Nat) (fn : Fn) (cio : List Nat) (np nk : Nat) (ds : List D) (K : D → VS → Prop) (ex : String → VS → Prop) (es : List D) (r : VS) : Prop := (ds.length + 1 = np ∧ es.length = nk ∧ (ds ++ es).all isLf = true) ∧ optK (slot? i r) r (methKE i fn cio K ex (ds ++ es))
def methKL (i : Nat) (fn : Fn) (cio : List Nat) (np nk : Nat) (kws : M (List D)) (K : D → VS → Prop) (ex : String → VS → Prop) (ds : List D) (r : VS) : Prop := (kws r).sat (methKR i fn cio np nk ds K ex) ex
def methK0 (c m : String) (i : Nat) (fn : Fn) (cio : List Nat) (np nk : Nat) (args kws : M (List D)) (K : D → VS → Prop) (ex : String → VS → Prop) (d : D) (r : VS) : Prop := isC c m d = true ∧ (args r).sat (methKL i fn cio np nk kws K ex) ex
theorem sat_methK {c m : String} {i : Nat} {fn : Fn} {cio : List Nat} {np nk : Nat} {args kws : M (List D)} : (mMethK c m i fn cio np nk args kws r).sat K ex = optK (slot? i r) r (methK0 c m i fn cio np nk args kws K ex) := by
  unfold mMethK
  cases slot? i r with
  | none => rfl
  | some d =>
    show (if isC c m d = true then _ else _ : R D).sat K ex = (isC c m d = true ∧ _)
    cases isC c m d with
    | false => exact propext ⟨fun z => z.elim, fun z => nomatch z.1⟩
    | true =>
      rw [if_pos rfl, sat_bind_eq]
      refine propext ⟨fun z => ⟨rfl, ?_⟩, fun z => ?_⟩
      all_goals (
        have e : (fun (a : List D) r' => ((M.bind kws fun es => M.bind (M.ck (decide (a.length + 1 = np) && (decide (es.length = nk) && (a ++ es).all isLf))) fun _ => fun r => match slot? i r with
          | some d => mCall fn cio (some i :: List.replicate (a ++ es).length none) (M.ret (d :: (a ++ es))) (r.set i none)
          | none => .no) r').sat K ex) = methKL i fn cio np nk kws K ex := by
          funext ds r'
          rw [sat_bind_eq]; unfold methKL; congr 1; funext es r2; rw [sat_bind_eq, sat_ck_eq]
          unfold methKR
          simp only [Bool.and_eq_true, decide_eq_true_eq]
          congr 1
          cases slot? i r2 with
          | none => rfl
          | some d => show (mCall _ _ _ _ _).sat K ex = _; rw [sat_callIo]; rfl)
      · rw [← e]; exact z
      · rw [e]; exact z.2
theorem methK0_eq {c m : String} {i : Nat} {fn : Fn} {cio : List Nat} {np nk : Nat} {args kws : M (List D)} {d : D} : methK0 c m i fn cio np nk args kws K ex d r = (isC c m d = true ∧ (args r).sat (methKL i fn cio np nk kws K ex) ex) := by unfold methK0; exact (Eq.refl _)
theorem methKL_eq {i : Nat} {fn : Fn} {cio : List Nat} {np nk : Nat} {kws : M (List D)} {ds : List D} : methKL i fn cio np nk kws K ex ds r = (kws r).sat (methKR i fn cio np nk ds K ex) ex := by unfold methKL; exact (Eq.refl _)
theorem methKR_eq {i : Nat} {fn : Fn} {cio : List Nat} {np nk : Nat} {ds es : List D} : methKR i fn cio np nk ds K ex es r = ((ds.length + 1 = np ∧ es.length = nk ∧ (ds ++ es).all isLf = true) ∧ optK (slot? i r) r (methKE i fn cio K ex (ds ++ es))) := by unfold methKR; exact (Eq.refl _)
theorem methKE_eq {i : Nat} {fn : Fn} {cio : List Nat} {l : List D} {d : D} : methKE i fn cio K ex l d r = (RF.back cio (some i :: List.replicate l.length none) (fn (d :: l)) (r.set i none)).sat K ex := by unfold methKE; exact (Eq.refl _)
theorem isLf_leaf {s : Sc} : isLf (.leaf s) = true := by unfold isLf; exact (Eq.refl _)
end
end VL

namespace Law
open PySem PySem.Spec L2 VL
def top (i : Nat) : Stmt := PySem.Challenge.pw_meridian_k07_clocks_within_bound.main.body.getD i (.Pass ⟨0, 0, 0, 0⟩)
def inC (s : Stmt) (j : Nat) : Stmt := match s with
  | .ClassDef _ _ _ b _ _ _ _ _ _ _ => b.getD j (.Pass ⟨0, 0, 0, 0⟩)
  | _ => .Pass ⟨0, 0, 0, 0⟩
abbrev cs : List String := ["MeridianError", "BadArgument", "Span", "Clock"]
abbrev st_Clock_c___init__ : Stmt := inC (top 7) 0
abbrev st_Clock_c_drift : Stmt := inC (top 7) 1
abbrev st_Span_c___init__ : Stmt := inC (top 5) 0
abbrev st_Clock_c_span : Stmt := inC (top 7) 2
abbrev st_Clock_c_wait_for : Stmt := inC (top 7) 3
abbrev st__law_refused : Stmt := top 12
abbrev st_Span_c___contains__ : Stmt := inC (top 5) 1
abbrev st__law_shows : Stmt := top 13
abbrev st__law_cell : Stmt := top 9
abbrev st__law_number : Stmt := top 11
abbrev st_Span_c_is_past : Stmt := inC (top 5) 2
abbrev st__law_is_int : Stmt := top 10
abbrev st_law : Stmt := top 14
/-! ### what each def does to plain data -/
/-- Clock.__init__(self, bound); slots: self bound -/
noncomputable def m_Clock_c___init__ : Fn := fnM 2 [0] ((mSeq (mIfS (mTest (mOp2 fLt (mPeek 1) (M.ret (.int 0)))) (mRaise "BadArgument") (M.ret .nx))
  (mSeq (mSetFld ["Clock"] 0 "bound" (mVar 1))
  (mSetFld ["Clock"] 0 "offset" (M.ret (.int 0))))))
/-- Clock.drift(self, offset); slots: self offset -/
noncomputable def m_Clock_c_drift : Fn := fnM 2 [0] ((mSeq (mIfS (mNotT (mTest (mChain fLe fLe (mOp1 fNeg (mFld ["Clock"] "bound" (mPeek 0))) (mPeek 1) (mFld ["Clock"] "bound" (mPeek 0))))) (mRaise "BadArgument") (M.ret .nx))
  (mSetFld ["Clock"] 0 "offset" (mVar 1))))
/-- Span.__init__(self, low, high); slots: self low high -/
noncomputable def m_Span_c___init__ : Fn := fnM 3 [0] ((mSeq (mIfS (mTest (mOp2 fGt (mPeek 1) (mPeek 2))) (mRaise "BadArgument") (M.ret .nx))
  (mSeq (mSetFld ["Span"] 0 "low" (mVar 1))
  (mSetFld ["Span"] 0 "high" (mVar 2)))))
/-- Clock.span(self, now); slots: self now shown -/
noncomputable def m_Clock_c_span : Fn := fnM 3 [0] ((mSeq (mIfS (mTest (mOp2 fLt (mPeek 1) (M.ret (.int 0)))) (mRaise "BadArgument") (M.ret .nx))
  (mSeq (mAsg (mOp2 fAdd (mPeek 1) (mFld ["Clock"] "offset" (mPeek 0))) (gPut 2))
  (mRet (mMake "Span" 3 m_Span_c___init__ (mCons (mOp2 fSub (mPeek 2) (mFld ["Clock"] "bound" (mPeek 0))) (mCons (mOp2 fAdd (mPeek 2) (mFld ["Clock"] "bound" (mPeek 0))) mNil)))))))
/-- Clock.wait_for(self, time, now); slots: self time now -/
noncomputable def m_Clock_c_wait_for : Fn := fnM 3 [0] ((mRet (mOpN fMax2 (mCons (mLf (M.ret (.int 0))) (mCons (mOp2 fAdd (mOp2 fSub (mLf (mPeek 1)) (mFld ["Span"] "low" (mMeth "Clock" "span" 0 m_Clock_c_span [0] [none] (mCons (mVar 2) mNil)))) (M.ret (.int 1))) mNil)))))
/-- _law_refused(_law_clock, _law_which, _law_number_here); slots: _law_clock _law_which _law_number_here -/
noncomputable def m__law_refused : Fn := fnM 3 [0] ((mSeq (mTry (mIfS (mTest (mOp2 fEq (mPeek 1) (M.ret (.int 0)))) (mDrop (mMake "Clock" 2 m_Clock_c___init__ (mCons (mVar 2) mNil))) (mIfS (mTest (mOp2 fEq (mPeek 1) (M.ret (.int 1)))) (mDrop (mMeth "Clock" "drift" 0 m_Clock_c_drift [0] [none] (mCons (mVar 2) mNil))) (mIfS (mTest (mOp2 fEq (mPeek 1) (M.ret (.int 2)))) (mDrop (mMeth "Clock" "span" 0 m_Clock_c_span [0] [none] (mCons (mVar 2) mNil))) (mDrop (mMethK "Clock" "wait_for" 0 m_Clock_c_wait_for [0] 2 1 (mCons (M.ret (.int 5)) mNil) (mCons (mPeek 2) mNil)))))) (fun x => decide (x ∈ (["BadArgument"] : List String))) (mRet (M.ret (.bl true))))
  (mRet (M.ret (.bl false)))))
/-- Span.__contains__(self, time); slots: self time -/
noncomputable def m_Span_c___contains__ : Fn := fnM 2 [] ((mRet (mChain fLe fLe (mFld ["Span"] "low" (mPeek 0)) (mPeek 1) (mFld ["Span"] "high" (mPeek 0)))))
/-- _law_shows(_law_clock, _law_limit, _law_shift, _law_true); slots: _law_clock _law_limit _law_shift _law_true _law_span -/
noncomputable def m__law_shows : Fn := fnM 5 [0] ((mSeq (mAsg (mMeth "Clock" "span" 0 m_Clock_c_span [0] [none] (mCons (mVar 3) mNil)) (gPut 4))
  (mSeq (mIfS (mOrT (mTest (mOp2 fNe (mFld ["Span"] "low" (mPeek 4)) (mOp2 fSub (mOp2 fAdd (mPeek 3) (mPeek 2)) (mPeek 1)))) (mOrT (mTest (mOp2 fNe (mFld ["Span"] "high" (mPeek 4)) (mOp2 fAdd (mOp2 fAdd (mPeek 3) (mPeek 2)) (mPeek 1)))) (mTest (mInO "Span" true m_Span_c___contains__ (mPeek 3) (mPeek 4))))) (mRet (M.ret (.bl false))) (M.ret .nx))
  (mRet (mAnd (mOp2 fEq (mFld ["Clock"] "bound" (mPeek 0)) (mPeek 1)) (mOp2 fEq (mFld ["Clock"] "offset" (mPeek 0)) (mPeek 2)))))))
/-- _law_cell(_law_script, _law_k); slots: _law_script _law_k -/
noncomputable def m__law_cell : Fn := fnM 2 [] ((mSeq (mIfS (mTest (mOp2 fLt (mPeek 1) (mOpN fLen (mCons (mPeek 0) mNil)))) (mRet (mOpN fAbs (mCons (mOpN fIntC (mCons (mIx (mPeek 0) (mPeek 1)) mNil)) mNil))) (M.ret .nx))
  (mRet (M.ret (.int 0)))))
/-- _law_number(_law_cell_here); slots: _law_cell_here -/
noncomputable def m__law_number : Fn := fnM 1 [] ((mSeq (mIfS (mTest (mOp2 fLt (mPeek 0) (mOp2 fPow (M.ret (.int 10)) (M.ret (.int 18))))) (mRet (mSh (mIx (mLst (mCons (M.ret (.int 0)) (mCons (M.ret (.int 1)) (mCons (M.ret (.int 127)) (mCons (M.ret (.int 128)) (mCons (M.ret (.int 129)) (mCons (M.ret (.int 16383)) (mCons (M.ret (.int 16384)) (mCons (M.ret (.int 16385)) (mCons (mVar 0) mNil)))))))))) (mOp2 fMod (mOpN fIntC (mCons (mPeek 0) mNil)) (M.ret (.int 9)))))) (M.ret .nx))
  (mRet (mOp2 fMod (mOpN fIntC (mCons (mPeek 0) mNil)) (mOp2 fPow (M.ret (.int 10)) (M.ret (.int 60)))))))
/-- Span.is_past(self, time); slots: self time -/
noncomputable def m_Span_c_is_past : Fn := fnM 2 [] ((mRet (mOp2 fLt (mPeek 1) (mFld ["Span"] "low" (mPeek 0)))))
/-- _law_is_int(_law_thing); slots: _law_thing -/
noncomputable def m__law_is_int : Fn := fnM 1 [] ((mRet (mAnd (mIsi (isiB "int") (mPeek 0)) (mNot (mIsi (isiB "bool") (mPeek 0))))))
noncomputable def b_law_0 : M Fl := (mSeq (mAsg (mCallB 2 m__law_cell (mCons (mPeek 0) (mCons (mPeek 3) mNil))) (gPut 4))
  (mSeq (mAsg (mSh (mIx (mLst (mCons (mVar 1) (mCons (mOp1 fNeg (mPeek 1)) (mCons (mOp2 fSub (mOp2 fMod (mOpN fIntC (mCons (mPeek 4) mNil)) (mOp2 fAdd (mOp2 fMulI (M.ret (.int 2)) (mPeek 1)) (M.ret (.int 1)))) (mPeek 1)) (mCons (M.ret (.int 0)) mNil))))) (mOp2 fMod (mOpN fIntC (mCons (mPeek 4) mNil)) (M.ret (.int 4))))) (gPut 5))
  (mSeq (mAsg (mCallF 1 m__law_number (mCons (mOp2 fDiv (mPeek 4) (M.ret (.int 4))) mNil)) (gPut 6))
  (mSeq (mDrop (mMeth "Clock" "drift" 2 m_Clock_c_drift [0] [none] (mCons (mVar 5) mNil)))
  (mSeq (mIfS (mOrT (mNotT (mTest (mCall m__law_refused [0] [some 2, none, none] (mCons (mMove 2) (mCons (M.ret (.int 1)) (mCons (mOp2 fAdd (mOp2 fAdd (mPeek 1) (M.ret (.int 1))) (mOp2 fMod (mOpN fIntC (mCons (mPeek 4) mNil)) (M.ret (.int 9)))) mNil)))))) (mNotT (mTest (mCall m__law_refused [0] [some 2, none, none] (mCons (mMove 2) (mCons (M.ret (.int 1)) (mCons (mOp2 fSub (mOp2 fSub (mOp1 fNeg (mPeek 1)) (M.ret (.int 1))) (mOp2 fMod (mOpN fIntC (mCons (mPeek 4) mNil)) (M.ret (.int 9)))) mNil))))))) (mRet (M.ret (.bl false))) (M.ret .nx))
  (mSeq (mIfS (mOrT (mNotT (mTest (mCall m__law_refused [0] [some 2, none, none] (mCons (mMove 2) (mCons (M.ret (.int 2)) (mCons (mOp2 fSub (mOp1 fNeg (M.ret (.int 1))) (mPeek 6)) mNil)))))) (mNotT (mTest (mCall m__law_refused [0] [some 2, none, none] (mCons (mMove 2) (mCons (M.ret (.int 3)) (mCons (mOp2 fSub (mOp1 fNeg (M.ret (.int 1))) (mPeek 6)) mNil))))))) (mRet (M.ret (.bl false))) (M.ret .nx))
  (mSeq (mIfS (mNotT (mTest (mCall m__law_shows [0] [some 2, none, none, none] (mCons (mMove 2) (mCons (mVar 1) (mCons (mVar 5) (mCons (mVar 6) mNil))))))) (mRet (M.ret (.bl false))) (M.ret .nx))
  (mSeq (mAsg (mOp2 fAdd (mPeek 6) (mIx (mLst (mCons (M.ret (.int 0)) (mCons (M.ret (.int 1)) (mCons (mVar 1) (mCons (mOp1 fNeg (mPeek 1)) (mCons (mOp2 fSub (mOp2 fMod (mOpN fIntC (mCons (mPeek 4) mNil)) (M.ret (.int 77))) (M.ret (.int 20))) mNil)))))) (mOp2 fMod (mOpN fIntC (mCons (mPeek 4) mNil)) (M.ret (.int 5))))) (gPut 7))
  (mSeq (mAsg (mMethK "Clock" "wait_for" 2 m_Clock_c_wait_for [0] 2 1 (mCons (mPeek 7) mNil) (mCons (mPeek 6) mNil)) (gPut 8))
  (mSeq (mIfS (mOrT (mNotT (mTest (mCallB 1 m__law_is_int (mCons (mPeek 8) mNil)))) (mOrT (mTest (mOp2 fLt (mPeek 8) (M.ret (.int 0)))) (mNotT (mTest (mMethB "Span" "is_past" 2 m_Span_c_is_past (mMeth "Clock" "span" 2 m_Clock_c_span [0] [none] (mCons (mOp2 fAdd (mPeek 6) (mPeek 8)) mNil)) (mCons (mPeek 7) mNil)))))) (mRet (M.ret (.bl false))) (M.ret .nx))
  (mIfS (mAndT (mTest (mOp2 fGt (mPeek 8) (M.ret (.int 0)))) (mTest (mMethB "Span" "is_past" 2 m_Span_c_is_past (mMeth "Clock" "span" 2 m_Clock_c_span [0] [none] (mCons (mOp2 fSub (mOp2 fAdd (mPeek 6) (mPeek 8)) (M.ret (.int 1))) mNil)) (mCons (mPeek 7) mNil)))) (mRet (M.ret (.bl false))) (M.ret .nx))))))))))))
/-- law(_law_script); slots: _law_script _law_limit _law_clock _law_k _law_cell_here _law_shift _law_true _law_time _law_wait -/
noncomputable def m_law : Fn := fnM 9 [] ((mSeq (mAsg (mSh (mIx (mLst (mCons (mOp2 fMod (mOpN fIntC (mCons (mCallB 2 m__law_cell (mCons (mPeek 0) (mCons (M.ret (.int 0)) mNil))) mNil)) (M.ret (.int 41))) (mCons (mCallF 1 m__law_number (mCons (mCallB 2 m__law_cell (mCons (mPeek 0) (mCons (M.ret (.int 0)) mNil))) mNil)) mNil))) (mOp2 fMod (mOpN fIntC (mCons (mCallB 2 m__law_cell (mCons (mPeek 0) (mCons (M.ret (.int 1)) mNil))) mNil)) (M.ret (.int 2))))) (gPut 1))
  (mSeq (mAsg (mMake "Clock" 2 m_Clock_c___init__ (mCons (mVar 1) mNil)) (gPut 2))
  (mSeq (mIfS (mNotT (mTest (mCall m__law_shows [0] [some 2, none, none, none] (mCons (mMove 2) (mCons (mVar 1) (mCons (M.ret (.int 0)) (mCons (mCallF 1 m__law_number (mCons (mCallB 2 m__law_cell (mCons (mPeek 0) (mCons (M.ret (.int 1)) mNil))) mNil)) mNil))))))) (mRet (M.ret (.bl false))) (M.ret .nx))
  (mSeq (mFor (iRg2 (M.ret (.int 2)) (M.ret (.int 10))) (gPut 3) b_law_0)
  (mRet (mCall m__law_refused [0] [some 2, none, none] (mCons (mMove 2) (mCons (M.ret (.int 0)) (mCons (mOp2 fSub (mOp1 fNeg (M.ret (.int 1))) (mPeek 1)) mNil))))))))))
/-! ### what the top has written -/
structure Txt (K : PySem.W.Frag) (mg : Str → Option Value) : Prop where
  g_MeridianError : mg "MeridianError" = some (.ref (He.ga K "MeridianError"))
  g_BadArgument : mg "BadArgument" = some (.ref (He.ga K "BadArgument"))
  g_Span : mg "Span" = some (.ref (He.ga K "Span"))
  g_Clock : mg "Clock" = some (.ref (He.ga K "Clock"))
  g__law_cell : mg "_law_cell" = some (.ref (He.ga K "_law_cell"))
  g__law_is_int : mg "_law_is_int" = some (.ref (He.ga K "_law_is_int"))
  g__law_number : mg "_law_number" = some (.ref (He.ga K "_law_number"))
  g__law_refused : mg "_law_refused" = some (.ref (He.ga K "_law_refused"))
  g__law_shows : mg "_law_shows" = some (.ref (He.ga K "_law_shows"))
  g_law : mg "law" = some (.ref (He.ga K "law"))
  b_abs : mg "abs" = none
  b_bool : mg "bool" = none
  b_int : mg "int" = none
  b_isinstance : mg "isinstance" = none
  b_len : mg "len" = none
  b_max : mg "max" = none
  b_range : mg "range" = none
  x_BadArgument : (He.Fa.exc "BadArgument").ok K = true
  cl_Span : Cls K (He.ga K "Span")
  cl_Clock : Cls K (He.ga K "Clock")
  me_Clock_c_drift : Meth K (He.ga K "Clock") "drift" (He.ma K (He.ga K "Clock") "drift")
  me_Clock_c_span : Meth K (He.ga K "Clock") "span" (He.ma K (He.ga K "Clock") "span")
  me_Clock_c_wait_for : Meth K (He.ga K "Clock") "wait_for" (He.ma K (He.ga K "Clock") "wait_for")
  me_Span_c___contains__ : Meth K (He.ga K "Span") "__contains__" (He.ma K (He.ga K "Span") "__contains__")
  me_Span_c_is_past : Meth K (He.ga K "Span") "is_past" (He.ma K (He.ga K "Span") "is_past")
  mk_Clock : Mk K (He.ga K "Clock") (He.ma K (He.ga K "Clock") "__init__")
  mk_Span : Mk K (He.ga K "Span") (He.ma K (He.ga K "Span") "__init__")
  f_bound : FldOk K (clT cs K) ["Clock"] "bound"
  f_high : FldOk K (clT cs K) ["Span"] "high"
  f_low : FldOk K (clT cs K) ["Span"] "low"
  f_offset : FldOk K (clT cs K) ["Clock"] "offset"
  c_BadArgument : catB cs (.ref (He.ga K "BadArgument")) ["BadArgument"] K = true
  d_Clock_c___init__ : ∃ fd, FunD K "__init__" "Clock.__init__" (defArgs st_Clock_c___init__) (defBody st_Clock_c___init__) (defScope st_Clock_c___init__) [] [] (He.ma K (He.ga K "Clock") "__init__") fd
  d_Clock_c_drift : ∃ fd, FunD K "drift" "Clock.drift" (defArgs st_Clock_c_drift) (defBody st_Clock_c_drift) (defScope st_Clock_c_drift) [] [] (He.ma K (He.ga K "Clock") "drift") fd
  d_Span_c___init__ : ∃ fd, FunD K "__init__" "Span.__init__" (defArgs st_Span_c___init__) (defBody st_Span_c___init__) (defScope st_Span_c___init__) [] [] (He.ma K (He.ga K "Span") "__init__") fd
  d_Clock_c_span : ∃ fd, FunD K "span" "Clock.span" (defArgs st_Clock_c_span) (defBody st_Clock_c_span) (defScope st_Clock_c_span) [] [] (He.ma K (He.ga K "Clock") "span") fd
  d_Clock_c_wait_for : ∃ fd, FunD K "wait_for" "Clock.wait_for" (defArgs st_Clock_c_wait_for) (defBody st_Clock_c_wait_for) (defScope st_Clock_c_wait_for) [] [] (He.ma K (He.ga K "Clock") "wait_for") fd
  d__law_refused : ∃ fd, FunD K "_law_refused" "_law_refused" (defArgs st__law_refused) (defBody st__law_refused) (defScope st__law_refused) [] [] (He.ga K "_law_refused") fd
  d_Span_c___contains__ : ∃ fd, FunD K "__contains__" "Span.__contains__" (defArgs st_Span_c___contains__) (defBody st_Span_c___contains__) (defScope st_Span_c___contains__) [] [] (He.ma K (He.ga K "Span") "__contains__") fd
  d__law_shows : ∃ fd, FunD K "_law_shows" "_law_shows" (defArgs st__law_shows) (defBody st__law_shows) (defScope st__law_shows) [] [] (He.ga K "_law_shows") fd
  d__law_cell : ∃ fd, FunD K "_law_cell" "_law_cell" (defArgs st__law_cell) (defBody st__law_cell) (defScope st__law_cell) [] [] (He.ga K "_law_cell") fd
  d__law_number : ∃ fd, FunD K "_law_number" "_law_number" (defArgs st__law_number) (defBody st__law_number) (defScope st__law_number) [] [] (He.ga K "_law_number") fd
  d_Span_c_is_past : ∃ fd, FunD K "is_past" "Span.is_past" (defArgs st_Span_c_is_past) (defBody st_Span_c_is_past) (defScope st_Span_c_is_past) [] [] (He.ma K (He.ga K "Span") "is_past") fd
  d__law_is_int : ∃ fd, FunD K "_law_is_int" "_law_is_int" (defArgs st__law_is_int) (defBody st__law_is_int) (defScope st__law_is_int) [] [] (He.ga K "_law_is_int") fd
  d_law : ∃ fd, FunD K "law" "law" (defArgs st_law) (defBody st_law) (defScope st_law) [] [] (He.ga K "law") fd
section
variable {P : Program} {w : World} {K : PySem.W.Frag} {mg : Str → Option Value} {base : Heap}
abbrev N_Clock_c___init__ : List Str := ["self", "bound"]
theorem sc_Clock_c___init__ : FnScope N_Clock_c___init__ ["self", "bound"] (defScope st_Clock_c___init__) := ⟨rfl, rfl, rfl, by decide +kernel, rfl, by decide +kernel, by decide +kernel⟩
theorem bn_Clock_c___init__ {fd : FuncData} (F : FunD K "__init__" "Clock.__init__" (defArgs st_Clock_c___init__) (defBody st_Clock_c___init__) (defScope st_Clock_c___init__) [] [] (He.ma K (He.ga K "Clock") "__init__") fd) : Binds K fd ["self", "bound"] [] := F.bindsN fun _ _ _ _ _ _ us hl => match us, hl with | [_, _], _ => rfl
theorem ok_Clock_c___init__ (t : Txt K mg) {fd : FuncData} (F : FunD K "__init__" "Clock.__init__" (defArgs st_Clock_c___init__) (defBody st_Clock_c___init__) (defScope st_Clock_c___init__) [] [] (He.ma K (He.ga K "Clock") "__init__") fd) : FnOk P w K mg base (L2.CX P w) 1 (He.ma K (He.ga K "Clock") "__init__") fd ["self", "bound"] (spV K (clT cs K) 2 [0] m_Clock_c___init__) := by
  have nd : N_Clock_c___init__.Nodup := sc_Clock_c___init__.nd
  refine fn_okD (n := 2) F sc_Clock_c___init__ rfl (by decide) (by decide) fun cdv A outer s H E hr => ?_
  have hu := hu64 hr
  have hu5 := hu65 hr
  exact (qss_cons (qs_if (qt_cmp op_ltU lt_ok (qb_peek (i := 1) rfl (by first | exact Or.inl rfl | exact Or.inr (Or.inl rfl) | exact Or.inr (Or.inr rfl))) (qb_of qe_int) (nomark _)) (qss_one (qs_raiseOwn (c := "BadArgument") rfl (takes_of rfl rfl rfl rfl) (by decide) t.x_BadArgument t.g_BadArgument rfl)) qss_nil)
  (qss_cons (qs_setFld t.f_bound (i := 0) rfl (by first | exact Or.inl rfl | exact Or.inr (Or.inl rfl) | exact Or.inr (Or.inr rfl)) (qe_var (i := 1) rfl (by first | exact Or.inl rfl | exact Or.inr (Or.inl rfl) | exact Or.inr (Or.inr rfl))))
  (qss_one (qs_setFld t.f_offset (i := 0) rfl (by first | exact Or.inl rfl | exact Or.inr (Or.inl rfl) | exact Or.inr (Or.inr rfl)) qe_int))))
abbrev N_Clock_c_drift : List Str := ["self", "offset"]
theorem sc_Clock_c_drift : FnScope N_Clock_c_drift ["self", "offset"] (defScope st_Clock_c_drift) := ⟨rfl, rfl, rfl, by decide +kernel, rfl, by decide +kernel, by decide +kernel⟩
theorem bn_Clock_c_drift {fd : FuncData} (F : FunD K "drift" "Clock.drift" (defArgs st_Clock_c_drift) (defBody st_Clock_c_drift) (defScope st_Clock_c_drift) [] [] (He.ma K (He.ga K "Clock") "drift") fd) : Binds K fd ["self", "offset"] [] := F.bindsN fun _ _ _ _ _ _ us hl => match us, hl with | [_, _], _ => rfl
theorem ok_Clock_c_drift (t : Txt K mg) {fd : FuncData} (F : FunD K "drift" "Clock.drift" (defArgs st_Clock_c_drift) (defBody st_Clock_c_drift) (defScope st_Clock_c_drift) [] [] (He.ma K (He.ga K "Clock") "drift") fd) : FnOk P w K mg base (L2.CX P w) 1 (He.ma K (He.ga K "Clock") "drift") fd ["self", "offset"] (spV K (clT cs K) 2 [0] m_Clock_c_drift) := by
  have nd : N_Clock_c_drift.Nodup := sc_Clock_c_drift.nd
  refine fn_okD (n := 2) F sc_Clock_c_drift rfl (by decide) (by decide) fun cdv A outer s H E hr => ?_
  have hu := hu64 hr
  have hu5 := hu65 hr
  exact (qss_cons (qs_if (qt_not (qt_chain op_leU op_leU le_ok le_ok (qb_of (qe_un un_neg neg_ok (qb_fld t.f_bound (qb_peek (i := 0) rfl (by first | exact Or.inl rfl | exact Or.inr (Or.inl rfl) | exact Or.inr (Or.inr rfl)))))) (qb_peek (i := 1) rfl (by first | exact Or.inl rfl | exact Or.inr (Or.inl rfl) | exact Or.inr (Or.inr rfl))) (qb_fld t.f_bound (qb_peek (i := 0) rfl (by first | exact Or.inl rfl | exact Or.inr (Or.inl rfl) | exact Or.inr (Or.inr rfl)))))) (qss_one (qs_raiseOwn (c := "BadArgument") rfl (takes_of rfl rfl rfl rfl) (by decide) t.x_BadArgument t.g_BadArgument rfl)) qss_nil)
  (qss_one (qs_setFld t.f_offset (i := 0) rfl (by first | exact Or.inl rfl | exact Or.inr (Or.inl rfl) | exact Or.inr (Or.inr rfl)) (qe_var (i := 1) rfl (by first | exact Or.inl rfl | exact Or.inr (Or.inl rfl) | exact Or.inr (Or.inr rfl))))))
abbrev N_Span_c___init__ : List Str := ["self", "low", "high"]
theorem sc_Span_c___init__ : FnScope N_Span_c___init__ ["self", "low", "high"] (defScope st_Span_c___init__) := ⟨rfl, rfl, rfl, by decide +kernel, rfl, by decide +kernel, by decide +kernel⟩
theorem bn_Span_c___init__ {fd : FuncData} (F : FunD K "__init__" "Span.__init__" (defArgs st_Span_c___init__) (defBody st_Span_c___init__) (defScope st_Span_c___init__) [] [] (He.ma K (He.ga K "Span") "__init__") fd) : Binds K fd ["self", "low", "high"] [] := F.bindsN fun _ _ _ _ _ _ us hl => match us, hl with | [_, _, _], _ => rfl
theorem ok_Span_c___init__ (t : Txt K mg) {fd : FuncData} (F : FunD K "__init__" "Span.__init__" (defArgs st_Span_c___init__) (defBody st_Span_c___init__) (defScope st_Span_c___init__) [] [] (He.ma K (He.ga K "Span") "__init__") fd) : FnOk P w K mg base (L2.CX P w) 1 (He.ma K (He.ga K "Span") "__init__") fd ["self", "low", "high"] (spV K (clT cs K) 3 [0] m_Span_c___init__) := by
  have nd : N_Span_c___init__.Nodup := sc_Span_c___init__.nd
  refine fn_okD (n := 3) F sc_Span_c___init__ rfl (by decide) (by decide) fun cdv A outer s H E hr => ?_
  have hu := hu64 hr
  have hu5 := hu65 hr
  exact (qss_cons (qs_if (qt_cmp op_gt gt_ok (qb_peek (i := 1) rfl (by first | exact Or.inl rfl | exact Or.inr (Or.inl rfl) | exact Or.inr (Or.inr rfl))) (qb_peek (i := 2) rfl (by first | exact Or.inl rfl | exact Or.inr (Or.inl rfl) | exact Or.inr (Or.inr rfl))) (nomark _)) (qss_one (qs_raiseOwn (c := "BadArgument") rfl (takes_of rfl rfl rfl rfl) (by decide) t.x_BadArgument t.g_BadArgument rfl)) qss_nil)
  (qss_cons (qs_setFld t.f_low (i := 0) rfl (by first | exact Or.inl rfl | exact Or.inr (Or.inl rfl) | exact Or.inr (Or.inr rfl)) (qe_var (i := 1) rfl (by first | exact Or.inl rfl | exact Or.inr (Or.inl rfl) | exact Or.inr (Or.inr rfl))))
  (qss_one (qs_setFld t.f_high (i := 0) rfl (by first | exact Or.inl rfl | exact Or.inr (Or.inl rfl) | exact Or.inr (Or.inr rfl)) (qe_var (i := 2) rfl (by first | exact Or.inl rfl | exact Or.inr (Or.inl rfl) | exact Or.inr (Or.inr rfl)))))))
abbrev N_Clock_c_span : List Str := ["self", "now", "shown"]
theorem sc_Clock_c_span : FnScope N_Clock_c_span ["self", "now"] (defScope st_Clock_c_span) := ⟨rfl, rfl, rfl, by decide +kernel, rfl, by decide +kernel, by decide +kernel⟩
theorem bn_Clock_c_span {fd : FuncData} (F : FunD K "span" "Clock.span" (defArgs st_Clock_c_span) (defBody st_Clock_c_span) (defScope st_Clock_c_span) [] [] (He.ma K (He.ga K "Clock") "span") fd) : Binds K fd ["self", "now"] [] := F.bindsN fun _ _ _ _ _ _ us hl => match us, hl with | [_, _], _ => rfl
theorem ok_Clock_c_span (t : Txt K mg) {fd : FuncData} (F : FunD K "span" "Clock.span" (defArgs st_Clock_c_span) (defBody st_Clock_c_span) (defScope st_Clock_c_span) [] [] (He.ma K (He.ga K "Clock") "span") fd) : FnOk P w K mg base (L2.CX P w) 3 (He.ma K (He.ga K "Clock") "span") fd ["self", "now"] (spV K (clT cs K) 2 [0] m_Clock_c_span) := by
  obtain ⟨fd_Span_c___init__, D_Span_c___init__⟩ := t.d_Span_c___init__
  have F_Span_c___init__ := ok_Span_c___init__ (P := P) (w := w) (base := base) t D_Span_c___init__
  have K_Span_c___init__ := D_Span_c___init__.kp
  have B_Span_c___init__ := bn_Span_c___init__ D_Span_c___init__
  have nd : N_Clock_c_span.Nodup := sc_Clock_c_span.nd
  refine fn_okD (n := 3) F sc_Clock_c_span rfl (by decide) (by decide) fun cdv A outer s H E hr => ?_
  have hu := hu64 hr
  have hu5 := hu65 hr
  exact (qss_cons (qs_if (qt_cmp op_ltU lt_ok (qb_peek (i := 1) rfl (by first | exact Or.inl rfl | exact Or.inr (Or.inl rfl) | exact Or.inr (Or.inr rfl))) (qb_of qe_int) (nomark _)) (qss_one (qs_raiseOwn (c := "BadArgument") rfl (takes_of rfl rfl rfl rfl) (by decide) t.x_BadArgument t.g_BadArgument rfl)) qss_nil)
  (qss_cons (qs_set (i := 2) nd rfl (by first | exact Or.inl rfl | exact Or.inr rfl) (by decide) (qe_op2 op_addU add_ok (qb_peek (i := 1) rfl (by first | exact Or.inl rfl | exact Or.inr (Or.inl rfl) | exact Or.inr (Or.inr rfl))) (qb_fld t.f_offset (qb_peek (i := 0) rfl (by first | exact Or.inl rfl | exact Or.inr (Or.inl rfl) | exact Or.inr (Or.inr rfl))))))
  (qss_one (qs_ret (qe_make (clT_in (by decide)) t.mk_Span F_Span_c___init__ (hr.mono (by decide)) rfl t.g_Span B_Span_c___init__ (takes_of rfl rfl rfl rfl) (xqa_cons (qe_op2 op_sub sub_ok (qb_peek (i := 2) rfl (by first | exact Or.inl rfl | exact Or.inr (Or.inl rfl) | exact Or.inr (Or.inr rfl))) (qb_fld t.f_bound (qb_peek (i := 0) rfl (by first | exact Or.inl rfl | exact Or.inr (Or.inl rfl) | exact Or.inr (Or.inr rfl))))) (xqa_cons (qe_op2 op_addU add_ok (qb_peek (i := 2) rfl (by first | exact Or.inl rfl | exact Or.inr (Or.inl rfl) | exact Or.inr (Or.inr rfl))) (qb_fld t.f_bound (qb_peek (i := 0) rfl (by first | exact Or.inl rfl | exact Or.inr (Or.inl rfl) | exact Or.inr (Or.inr rfl))))) qa_nil)))))))
abbrev N_Clock_c_wait_for : List Str := ["self", "time", "now"]
theorem sc_Clock_c_wait_for : FnScope N_Clock_c_wait_for ["self", "time", "now"] (defScope st_Clock_c_wait_for) := ⟨rfl, rfl, rfl, by decide +kernel, rfl, by decide +kernel, by decide +kernel⟩
theorem bn_Clock_c_wait_for {fd : FuncData} (F : FunD K "wait_for" "Clock.wait_for" (defArgs st_Clock_c_wait_for) (defBody st_Clock_c_wait_for) (defScope st_Clock_c_wait_for) [] [] (He.ma K (He.ga K "Clock") "wait_for") fd) : KBn K fd ["self", "time", "now"] 2 ["now"] (fun us ws => us ++ ws) (fun vs zs => vs ++ zs) := FunD_kbn0 F 2 ["now"] fun _ _ _ _ _ _ us ws h1 h2 => match us, ws, h1, h2 with | [_, _], [_], _, _ => rfl
theorem ok_Clock_c_wait_for (t : Txt K mg) {fd : FuncData} (F : FunD K "wait_for" "Clock.wait_for" (defArgs st_Clock_c_wait_for) (defBody st_Clock_c_wait_for) (defScope st_Clock_c_wait_for) [] [] (He.ma K (He.ga K "Clock") "wait_for") fd) : FnOk P w K mg base (L2.CX P w) 4 (He.ma K (He.ga K "Clock") "wait_for") fd ["self", "time", "now"] (spV K (clT cs K) 3 [0] m_Clock_c_wait_for) := by
  obtain ⟨fd_Clock_c_span, D_Clock_c_span⟩ := t.d_Clock_c_span
  have F_Clock_c_span := ok_Clock_c_span (P := P) (w := w) (base := base) t D_Clock_c_span
  have K_Clock_c_span := D_Clock_c_span.kp
  have B_Clock_c_span := bn_Clock_c_span D_Clock_c_span
  have nd : N_Clock_c_wait_for.Nodup := sc_Clock_c_wait_for.nd
  refine fn_okD (n := 3) F sc_Clock_c_wait_for rfl (by decide) (by decide) fun cdv A outer s H E hr => ?_
  have hu := hu64 hr
  have hu5 := hu65 hr
  exact (qss_one (qs_ret (qe_callB (call_max2 rfl) max2_ok rfl t.b_max (by decide +kernel) (qab_consL (qb_of qe_int) (qab_cons (qb_of (qe_op2 op_addU add_ok (qb_of (qe_op2L op_sub sub_ok (qb_peek (i := 1) rfl (by first | exact Or.inl rfl | exact Or.inr (Or.inl rfl) | exact Or.inr (Or.inr rfl))) (qb_fld t.f_low (qb_of (qe_meth (clT_in (by decide)) t.cl_Clock t.me_Clock_c_span F_Clock_c_span (hr.mono (by decide)) B_Clock_c_span (takes_of rfl rfl rfl rfl) rfl (i := 0) rfl (by first | exact Or.inl rfl | exact Or.inr (Or.inl rfl) | exact Or.inr (Or.inr rfl)) (xqai_cons (qe_var (i := 2) rfl (by first | exact Or.inl rfl | exact Or.inr (Or.inl rfl) | exact Or.inr (Or.inr rfl))) qai_nil)))))) (qb_of qe_int))) qab_nil)))))
abbrev N__law_refused : List Str := ["_law_clock", "_law_which", "_law_number_here"]
theorem sc__law_refused : FnScope N__law_refused ["_law_clock", "_law_which", "_law_number_here"] (defScope st__law_refused) := ⟨rfl, rfl, rfl, by decide +kernel, rfl, by decide +kernel, by decide +kernel⟩
theorem bn__law_refused {fd : FuncData} (F : FunD K "_law_refused" "_law_refused" (defArgs st__law_refused) (defBody st__law_refused) (defScope st__law_refused) [] [] (He.ga K "_law_refused") fd) : Binds K fd ["_law_clock", "_law_which", "_law_number_here"] [] := F.bindsN fun _ _ _ _ _ _ us hl => match us, hl with | [_, _, _], _ => rfl
theorem ok__law_refused (t : Txt K mg) {fd : FuncData} (F : FunD K "_law_refused" "_law_refused" (defArgs st__law_refused) (defBody st__law_refused) (defScope st__law_refused) [] [] (He.ga K "_law_refused") fd) : FnOk P w K mg base (L2.CX P w) 5 (He.ga K "_law_refused") fd ["_law_clock", "_law_which", "_law_number_here"] (spV K (clT cs K) 3 [0] m__law_refused) := by
  obtain ⟨fd_Clock_c___init__, D_Clock_c___init__⟩ := t.d_Clock_c___init__
  have F_Clock_c___init__ := ok_Clock_c___init__ (P := P) (w := w) (base := base) t D_Clock_c___init__
  have K_Clock_c___init__ := D_Clock_c___init__.kp
  have B_Clock_c___init__ := bn_Clock_c___init__ D_Clock_c___init__
  obtain ⟨fd_Clock_c_drift, D_Clock_c_drift⟩ := t.d_Clock_c_drift
  have F_Clock_c_drift := ok_Clock_c_drift (P := P) (w := w) (base := base) t D_Clock_c_drift
  have K_Clock_c_drift := D_Clock_c_drift.kp
  have B_Clock_c_drift := bn_Clock_c_drift D_Clock_c_drift
  obtain ⟨fd_Clock_c_span, D_Clock_c_span⟩ := t.d_Clock_c_span
  have F_Clock_c_span := ok_Clock_c_span (P := P) (w := w) (base := base) t D_Clock_c_span
  have K_Clock_c_span := D_Clock_c_span.kp
  have B_Clock_c_span := bn_Clock_c_span D_Clock_c_span
  obtain ⟨fd_Clock_c_wait_for, D_Clock_c_wait_for⟩ := t.d_Clock_c_wait_for
  have F_Clock_c_wait_for := ok_Clock_c_wait_for (P := P) (w := w) (base := base) t D_Clock_c_wait_for
  have K_Clock_c_wait_for := D_Clock_c_wait_for.kp
  have B_Clock_c_wait_for := bn_Clock_c_wait_for D_Clock_c_wait_for
  have nd : N__law_refused.Nodup := sc__law_refused.nd
  refine fn_okD (n := 3) F sc__law_refused rfl (by decide) (by decide) fun cdv A outer s H E hr => ?_
  have hu := hu64 hr
  have hu5 := hu65 hr
  exact (qss_cons (qs_try rfl rfl ⟨rfl, by decide, .inl t.g_BadArgument⟩ (takes_of rfl rfl rfl rfl) (catB_ok t.c_BadArgument) (fun W pn xe tk po => (qss_one (qs_if (qt_cmp (op_eqD hu) eq_ok (qb_peek (i := 1) rfl (by first | exact Or.inl rfl | exact Or.inr (Or.inl rfl) | exact Or.inr (Or.inr rfl))) (qb_of qe_int) (nomark _)) (qss_one (qs_expr (qe_make (clT_in (by decide)) t.mk_Clock F_Clock_c___init__ (hr.mono (by decide)) rfl t.g_Clock B_Clock_c___init__ tk (xqa_cons (qe_var (i := 2) rfl (by first | exact Or.inl rfl | exact Or.inr (Or.inl rfl) | exact Or.inr (Or.inr rfl))) qa_nil)))) (qss_one (qs_if (qt_cmp (op_eqD hu) eq_ok (qb_peek (i := 1) rfl (by first | exact Or.inl rfl | exact Or.inr (Or.inl rfl) | exact Or.inr (Or.inr rfl))) (qb_of qe_int) (nomark _)) (qss_one (qs_expr (qe_meth (clT_in (by decide)) t.cl_Clock t.me_Clock_c_drift F_Clock_c_drift (hr.mono (by decide)) B_Clock_c_drift tk rfl (i := 0) rfl (by first | exact Or.inl rfl | exact Or.inr (Or.inl rfl) | exact Or.inr (Or.inr rfl)) (xqai_cons (qe_var (i := 2) rfl (by first | exact Or.inl rfl | exact Or.inr (Or.inl rfl) | exact Or.inr (Or.inr rfl))) qai_nil)))) (qss_one (qs_if (qt_cmp (op_eqD hu) eq_ok (qb_peek (i := 1) rfl (by first | exact Or.inl rfl | exact Or.inr (Or.inl rfl) | exact Or.inr (Or.inr rfl))) (qb_of qe_int) (nomark _)) (qss_one (qs_expr (qe_meth (clT_in (by decide)) t.cl_Clock t.me_Clock_c_span F_Clock_c_span (hr.mono (by decide)) B_Clock_c_span tk rfl (i := 0) rfl (by first | exact Or.inl rfl | exact Or.inr (Or.inl rfl) | exact Or.inr (Or.inr rfl)) (xqai_cons (qe_var (i := 2) rfl (by first | exact Or.inl rfl | exact Or.inr (Or.inl rfl) | exact Or.inr (Or.inr rfl))) qai_nil)))) (qss_one (qs_expr (qe_methK (i := 0) (ks := ["now"]) (clT_in (by decide)) t.cl_Clock t.me_Clock_c_wait_for F_Clock_c_wait_for (hr.mono (by decide)) B_Clock_c_wait_for tk rfl rfl (by first | exact Or.inl rfl | exact Or.inr (Or.inl rfl) | exact Or.inr (Or.inr rfl)) (qab_cons (qb_of qe_int) qab_nil) (qkb_cons (qb_peek (i := 2) rfl (by first | exact Or.inl rfl | exact Or.inr (Or.inl rfl) | exact Or.inr (Or.inr rfl))) qkb_nil))))))))))) (fun a oe cls d pn hz hf => (qss_one (qs_ret qe_bl))))
  (qss_one (qs_ret qe_bl)))
abbrev N_Span_c___contains__ : List Str := ["self", "time"]
theorem sc_Span_c___contains__ : FnScope N_Span_c___contains__ ["self", "time"] (defScope st_Span_c___contains__) := ⟨rfl, rfl, rfl, by decide +kernel, rfl, by decide +kernel, by decide +kernel⟩
theorem bn_Span_c___contains__ {fd : FuncData} (F : FunD K "__contains__" "Span.__contains__" (defArgs st_Span_c___contains__) (defBody st_Span_c___contains__) (defScope st_Span_c___contains__) [] [] (He.ma K (He.ga K "Span") "__contains__") fd) : Binds K fd ["self", "time"] [] := F.bindsN fun _ _ _ _ _ _ us hl => match us, hl with | [_, _], _ => rfl
theorem ok_Span_c___contains__ (t : Txt K mg) {fd : FuncData} (F : FunD K "__contains__" "Span.__contains__" (defArgs st_Span_c___contains__) (defBody st_Span_c___contains__) (defScope st_Span_c___contains__) [] [] (He.ma K (He.ga K "Span") "__contains__") fd) : FnOk P w K mg base (L2.CX P w) 1 (He.ma K (He.ga K "Span") "__contains__") fd ["self", "time"] (spV K (clT cs K) 2 [] m_Span_c___contains__) := by
  have nd : N_Span_c___contains__.Nodup := sc_Span_c___contains__.nd
  refine fn_okD (n := 2) F sc_Span_c___contains__ rfl (by decide) (by decide) fun cdv A outer s H E hr => ?_
  have hu := hu64 hr
  have hu5 := hu65 hr
  exact (qss_one (qs_ret (qe_chain op_leU op_leU le_ok le_ok (qb_fld t.f_low (qb_peek (i := 0) rfl (by first | exact Or.inl rfl | exact Or.inr (Or.inl rfl) | exact Or.inr (Or.inr rfl)))) (qb_peek (i := 1) rfl (by first | exact Or.inl rfl | exact Or.inr (Or.inl rfl) | exact Or.inr (Or.inr rfl))) (qb_fld t.f_high (qb_peek (i := 0) rfl (by first | exact Or.inl rfl | exact Or.inr (Or.inl rfl) | exact Or.inr (Or.inr rfl)))))))
abbrev N__law_shows : List Str := ["_law_clock", "_law_limit", "_law_shift", "_law_true", "_law_span"]
theorem sc__law_shows : FnScope N__law_shows ["_law_clock", "_law_limit", "_law_shift", "_law_true"] (defScope st__law_shows) := ⟨rfl, rfl, rfl, by decide +kernel, rfl, by decide +kernel, by decide +kernel⟩
theorem bn__law_shows {fd : FuncData} (F : FunD K "_law_shows" "_law_shows" (defArgs st__law_shows) (defBody st__law_shows) (defScope st__law_shows) [] [] (He.ga K "_law_shows") fd) : Binds K fd ["_law_clock", "_law_limit", "_law_shift", "_law_true"] [] := F.bindsN fun _ _ _ _ _ _ us hl => match us, hl with | [_, _, _, _], _ => rfl
theorem ok__law_shows (t : Txt K mg) {fd : FuncData} (F : FunD K "_law_shows" "_law_shows" (defArgs st__law_shows) (defBody st__law_shows) (defScope st__law_shows) [] [] (He.ga K "_law_shows") fd) : FnOk P w K mg base (L2.CX P w) 4 (He.ga K "_law_shows") fd ["_law_clock", "_law_limit", "_law_shift", "_law_true"] (spV K (clT cs K) 4 [0] m__law_shows) := by
  obtain ⟨fd_Clock_c_span, D_Clock_c_span⟩ := t.d_Clock_c_span
  have F_Clock_c_span := ok_Clock_c_span (P := P) (w := w) (base := base) t D_Clock_c_span
  have K_Clock_c_span := D_Clock_c_span.kp
  have B_Clock_c_span := bn_Clock_c_span D_Clock_c_span
  obtain ⟨fd_Span_c___contains__, D_Span_c___contains__⟩ := t.d_Span_c___contains__
  have F_Span_c___contains__ := ok_Span_c___contains__ (P := P) (w := w) (base := base) t D_Span_c___contains__
  have K_Span_c___contains__ := D_Span_c___contains__.kp
  have B_Span_c___contains__ := bn_Span_c___contains__ D_Span_c___contains__
  have nd : N__law_shows.Nodup := sc__law_shows.nd
  refine fn_okD (n := 5) F sc__law_shows rfl (by decide) (by decide) fun cdv A outer s H E hr => ?_
  have hu := hu64 hr
  have hu5 := hu65 hr
  exact (qss_cons (qs_set (i := 4) nd rfl (by first | exact Or.inl rfl | exact Or.inr rfl) (by decide) (qe_meth (clT_in (by decide)) t.cl_Clock t.me_Clock_c_span F_Clock_c_span (hr.mono (by decide)) B_Clock_c_span (takes_of rfl rfl rfl rfl) rfl (i := 0) rfl (by first | exact Or.inl rfl | exact Or.inr (Or.inl rfl) | exact Or.inr (Or.inr rfl)) (xqai_cons (qe_var (i := 3) rfl (by first | exact Or.inl rfl | exact Or.inr (Or.inl rfl) | exact Or.inr (Or.inr rfl))) qai_nil)))
  (qss_cons (qs_if (QW.qt (xqw_or (qt_cmp (op_neD hu) ne_ok (qb_fld t.f_low (qb_peek (i := 4) rfl (by first | exact Or.inl rfl | exact Or.inr (Or.inl rfl) | exact Or.inr (Or.inr rfl)))) (qb_of (qe_op2 op_sub sub_ok (qb_of (qe_op2 op_addU add_ok (qb_peek (i := 3) rfl (by first | exact Or.inl rfl | exact Or.inr (Or.inl rfl) | exact Or.inr (Or.inr rfl))) (qb_peek (i := 2) rfl (by first | exact Or.inl rfl | exact Or.inr (Or.inl rfl) | exact Or.inr (Or.inr rfl))))) (qb_peek (i := 1) rfl (by first | exact Or.inl rfl | exact Or.inr (Or.inl rfl) | exact Or.inr (Or.inr rfl))))) (nomark _)) (xqw_or (qt_cmp (op_neD hu) ne_ok (qb_fld t.f_high (qb_peek (i := 4) rfl (by first | exact Or.inl rfl | exact Or.inr (Or.inl rfl) | exact Or.inr (Or.inr rfl)))) (qb_of (qe_op2 op_addU add_ok (qb_of (qe_op2 op_addU add_ok (qb_peek (i := 3) rfl (by first | exact Or.inl rfl | exact Or.inr (Or.inl rfl) | exact Or.inr (Or.inr rfl))) (qb_peek (i := 2) rfl (by first | exact Or.inl rfl | exact Or.inr (Or.inl rfl) | exact Or.inr (Or.inr rfl))))) (qb_peek (i := 1) rfl (by first | exact Or.inl rfl | exact Or.inr (Or.inl rfl) | exact Or.inr (Or.inr rfl))))) (nomark _)) (qw_one_or (qt_notInO (clT_in (by decide)) t.cl_Span t.me_Span_c___contains__ F_Span_c___contains__ (hr.mono (by decide)) B_Span_c___contains__ (takes_of rfl rfl rfl rfl) (qb_peek (i := 3) rfl (by first | exact Or.inl rfl | exact Or.inr (Or.inl rfl) | exact Or.inr (Or.inr rfl))) (qb_peek (i := 4) rfl (by first | exact Or.inl rfl | exact Or.inr (Or.inl rfl) | exact Or.inr (Or.inr rfl))) rfl))))) (qss_one (qs_ret qe_bl)) qss_nil)
  (qss_one (qs_ret (xqe_and (qb_of (qe_cmp (op_eqD hu) eq_ok (qb_fld t.f_bound (qb_peek (i := 0) rfl (by first | exact Or.inl rfl | exact Or.inr (Or.inl rfl) | exact Or.inr (Or.inr rfl)))) (qb_peek (i := 1) rfl (by first | exact Or.inl rfl | exact Or.inr (Or.inl rfl) | exact Or.inr (Or.inr rfl))) (nomark _))) (qe_one (qe_cmp (op_eqD hu) eq_ok (qb_fld t.f_offset (qb_peek (i := 0) rfl (by first | exact Or.inl rfl | exact Or.inr (Or.inl rfl) | exact Or.inr (Or.inr rfl)))) (qb_peek (i := 2) rfl (by first | exact Or.inl rfl | exact Or.inr (Or.inl rfl) | exact Or.inr (Or.inr rfl))) (nomark _))))))))
abbrev N__law_cell : List Str := ["_law_script", "_law_k"]
theorem sc__law_cell : FnScope N__law_cell ["_law_script", "_law_k"] (defScope st__law_cell) := ⟨rfl, rfl, rfl, by decide +kernel, rfl, by decide +kernel, by decide +kernel⟩
theorem bn__law_cell {fd : FuncData} (F : FunD K "_law_cell" "_law_cell" (defArgs st__law_cell) (defBody st__law_cell) (defScope st__law_cell) [] [] (He.ga K "_law_cell") fd) : Binds K fd ["_law_script", "_law_k"] [] := F.bindsN fun _ _ _ _ _ _ us hl => match us, hl with | [_, _], _ => rfl
theorem ok__law_cell (t : Txt K mg) {fd : FuncData} (F : FunD K "_law_cell" "_law_cell" (defArgs st__law_cell) (defBody st__law_cell) (defScope st__law_cell) [] [] (He.ga K "_law_cell") fd) : FnOk P w K mg base (L2.CX P w) 1 (He.ga K "_law_cell") fd ["_law_script", "_law_k"] (spV K (clT cs K) 2 [] m__law_cell) := by
  have nd : N__law_cell.Nodup := sc__law_cell.nd
  refine fn_okD (n := 2) F sc__law_cell rfl (by decide) (by decide) fun cdv A outer s H E hr => ?_
  have hu := hu64 hr
  have hu5 := hu65 hr
  exact (qss_cons (qs_if (qt_cmp op_ltU lt_ok (qb_peek (i := 1) rfl (by first | exact Or.inl rfl | exact Or.inr (Or.inl rfl) | exact Or.inr (Or.inr rfl))) (qb_of (qe_callB call_len len_ok rfl t.b_len (by decide +kernel) (qab_cons (qb_peek (i := 0) rfl (by first | exact Or.inl rfl | exact Or.inr (Or.inl rfl) | exact Or.inr (Or.inr rfl))) qab_nil))) (nomark _)) (qss_one (qs_ret (qe_callB call_abs abs_ok rfl t.b_abs (by decide +kernel) (qab_cons (qb_of (qe_callTy call_int1 intc_ok rfl t.b_int (by decide +kernel) (qab_cons (qb_ix (qb_peek (i := 0) rfl (by first | exact Or.inl rfl | exact Or.inr (Or.inl rfl) | exact Or.inr (Or.inr rfl))) (qb_peek (i := 1) rfl (by first | exact Or.inl rfl | exact Or.inr (Or.inl rfl) | exact Or.inr (Or.inr rfl)))) qab_nil))) qab_nil)))) qss_nil)
  (qss_one (qs_ret qe_int)))
abbrev N__law_number : List Str := ["_law_cell_here"]
theorem sc__law_number : FnScope N__law_number ["_law_cell_here"] (defScope st__law_number) := ⟨rfl, rfl, rfl, by decide +kernel, rfl, by decide +kernel, by decide +kernel⟩
theorem bn__law_number {fd : FuncData} (F : FunD K "_law_number" "_law_number" (defArgs st__law_number) (defBody st__law_number) (defScope st__law_number) [] [] (He.ga K "_law_number") fd) : Binds K fd ["_law_cell_here"] [] := F.bindsN fun _ _ _ _ _ _ us hl => match us, hl with | [_], _ => rfl
theorem ok__law_number (t : Txt K mg) {fd : FuncData} (F : FunD K "_law_number" "_law_number" (defArgs st__law_number) (defBody st__law_number) (defScope st__law_number) [] [] (He.ga K "_law_number") fd) : FnOk P w K mg base (L2.CX P w) 1 (He.ga K "_law_number") fd ["_law_cell_here"] (spV K (clT cs K) 1 [] m__law_number) := by
  have nd : N__law_number.Nodup := sc__law_number.nd
  refine fn_okD (n := 1) F sc__law_number rfl (by decide) (by decide) fun cdv A outer s H E hr => ?_
  have hu := hu64 hr
  have hu5 := hu65 hr
  exact (qss_cons (qs_if (qt_cmp op_ltU lt_ok (qb_peek (i := 0) rfl (by first | exact Or.inl rfl | exact Or.inr (Or.inl rfl) | exact Or.inr (Or.inr rfl))) (qb_of (qe_op2 op_pow pow_ok (qb_of qe_int) (qb_of qe_int))) (nomark _)) (qss_one (qs_ret (qe_sh (qb_ix (qb_of (qe_lst (xqa_cons qe_int (xqa_cons qe_int (xqa_cons qe_int (xqa_cons qe_int (xqa_cons qe_int (xqa_cons qe_int (xqa_cons qe_int (xqa_cons qe_int (xqa_cons (qe_var (i := 0) rfl (by first | exact Or.inl rfl | exact Or.inr (Or.inl rfl) | exact Or.inr (Or.inr rfl))) qa_nil))))))))))) (qb_of (qe_op2 op_mod mod_ok (qb_of (qe_callTy call_int1 intc_ok rfl t.b_int (by decide +kernel) (qab_cons (qb_peek (i := 0) rfl (by first | exact Or.inl rfl | exact Or.inr (Or.inl rfl) | exact Or.inr (Or.inr rfl))) qab_nil))) (qb_of qe_int))))))) qss_nil)
  (qss_one (qs_ret (qe_op2 op_mod mod_ok (qb_of (qe_callTy call_int1 intc_ok rfl t.b_int (by decide +kernel) (qab_cons (qb_peek (i := 0) rfl (by first | exact Or.inl rfl | exact Or.inr (Or.inl rfl) | exact Or.inr (Or.inr rfl))) qab_nil))) (qb_of (qe_op2 op_pow pow_ok (qb_of qe_int) (qb_of qe_int)))))))
abbrev N_Span_c_is_past : List Str := ["self", "time"]
theorem sc_Span_c_is_past : FnScope N_Span_c_is_past ["self", "time"] (defScope st_Span_c_is_past) := ⟨rfl, rfl, rfl, by decide +kernel, rfl, by decide +kernel, by decide +kernel⟩
theorem bn_Span_c_is_past {fd : FuncData} (F : FunD K "is_past" "Span.is_past" (defArgs st_Span_c_is_past) (defBody st_Span_c_is_past) (defScope st_Span_c_is_past) [] [] (He.ma K (He.ga K "Span") "is_past") fd) : Binds K fd ["self", "time"] [] := F.bindsN fun _ _ _ _ _ _ us hl => match us, hl with | [_, _], _ => rfl
theorem ok_Span_c_is_past (t : Txt K mg) {fd : FuncData} (F : FunD K "is_past" "Span.is_past" (defArgs st_Span_c_is_past) (defBody st_Span_c_is_past) (defScope st_Span_c_is_past) [] [] (He.ma K (He.ga K "Span") "is_past") fd) : FnOk P w K mg base (L2.CX P w) 1 (He.ma K (He.ga K "Span") "is_past") fd ["self", "time"] (spV K (clT cs K) 2 [] m_Span_c_is_past) := by
  have nd : N_Span_c_is_past.Nodup := sc_Span_c_is_past.nd
  refine fn_okD (n := 2) F sc_Span_c_is_past rfl (by decide) (by decide) fun cdv A outer s H E hr => ?_
  have hu := hu64 hr
  have hu5 := hu65 hr
  exact (qss_one (qs_ret (qe_cmp op_ltU lt_ok (qb_peek (i := 1) rfl (by first | exact Or.inl rfl | exact Or.inr (Or.inl rfl) | exact Or.inr (Or.inr rfl))) (qb_fld t.f_low (qb_peek (i := 0) rfl (by first | exact Or.inl rfl | exact Or.inr (Or.inl rfl) | exact Or.inr (Or.inr rfl)))) (nomark _))))
abbrev N__law_is_int : List Str := ["_law_thing"]
theorem sc__law_is_int : FnScope N__law_is_int ["_law_thing"] (defScope st__law_is_int) := ⟨rfl, rfl, rfl, by decide +kernel, rfl, by decide +kernel, by decide +kernel⟩
theorem bn__law_is_int {fd : FuncData} (F : FunD K "_law_is_int" "_law_is_int" (defArgs st__law_is_int) (defBody st__law_is_int) (defScope st__law_is_int) [] [] (He.ga K "_law_is_int") fd) : Binds K fd ["_law_thing"] [] := F.bindsN fun _ _ _ _ _ _ us hl => match us, hl with | [_], _ => rfl
theorem ok__law_is_int (t : Txt K mg) {fd : FuncData} (F : FunD K "_law_is_int" "_law_is_int" (defArgs st__law_is_int) (defBody st__law_is_int) (defScope st__law_is_int) [] [] (He.ga K "_law_is_int") fd) : FnOk P w K mg base (L2.CX P w) 1 (He.ga K "_law_is_int") fd ["_law_thing"] (spV K (clT cs K) 1 [] m__law_is_int) := by
  have nd : N__law_is_int.Nodup := sc__law_is_int.nd
  refine fn_okD (n := 1) F sc__law_is_int rfl (by decide) (by decide) fun cdv A outer s H E hr => ?_
  have hu := hu64 hr
  have hu5 := hu65 hr
  exact (qss_one (qs_ret (xqe_and (qb_of (qe_isi (qb_peek (i := 0) rfl (by first | exact Or.inl rfl | exact Or.inr (Or.inl rfl) | exact Or.inr (Or.inr rfl))) (pe_bltn (v := .ty "int") rfl t.b_int (by decide +kernel) rfl) (.ty _) (isi_ty (by decide +kernel)) rfl t.b_isinstance)) (qe_one (qe_not (qb_of (qe_isi (qb_peek (i := 0) rfl (by first | exact Or.inl rfl | exact Or.inr (Or.inl rfl) | exact Or.inr (Or.inr rfl))) (pe_bltn (v := .ty "bool") rfl t.b_bool (by decide +kernel) rfl) (.ty _) (isi_ty (by decide +kernel)) rfl t.b_isinstance)))))))
abbrev N_law : List Str := ["_law_script", "_law_limit", "_law_clock", "_law_k", "_law_cell_here", "_law_shift", "_law_true", "_law_time", "_law_wait"]
theorem sc_law : FnScope N_law ["_law_script"] (defScope st_law) := ⟨rfl, rfl, rfl, by decide +kernel, rfl, by decide +kernel, by decide +kernel⟩
theorem bn_law {fd : FuncData} (F : FunD K "law" "law" (defArgs st_law) (defBody st_law) (defScope st_law) [] [] (He.ga K "law") fd) : Binds K fd ["_law_script"] [] := F.bindsN fun _ _ _ _ _ _ us hl => match us, hl with | [_], _ => rfl
theorem ok_law (t : Txt K mg) {fd : FuncData} (F : FunD K "law" "law" (defArgs st_law) (defBody st_law) (defScope st_law) [] [] (He.ga K "law") fd) : FnOk P w K mg base (L2.CX P w) 6 (He.ga K "law") fd ["_law_script"] (spV K (clT cs K) 1 [] m_law) := by
  obtain ⟨fd_Clock_c___init__, D_Clock_c___init__⟩ := t.d_Clock_c___init__
  have F_Clock_c___init__ := ok_Clock_c___init__ (P := P) (w := w) (base := base) t D_Clock_c___init__
  have K_Clock_c___init__ := D_Clock_c___init__.kp
  have B_Clock_c___init__ := bn_Clock_c___init__ D_Clock_c___init__
  obtain ⟨fd__law_refused, D__law_refused⟩ := t.d__law_refused
  have F__law_refused := ok__law_refused (P := P) (w := w) (base := base) t D__law_refused
  have K__law_refused := D__law_refused.kp
  have B__law_refused := bn__law_refused D__law_refused
  obtain ⟨fd__law_shows, D__law_shows⟩ := t.d__law_shows
  have F__law_shows := ok__law_shows (P := P) (w := w) (base := base) t D__law_shows
  have K__law_shows := D__law_shows.kp
  have B__law_shows := bn__law_shows D__law_shows
  obtain ⟨fd__law_cell, D__law_cell⟩ := t.d__law_cell
  have F__law_cell := ok__law_cell (P := P) (w := w) (base := base) t D__law_cell
  have K__law_cell := D__law_cell.kp
  have B__law_cell := bn__law_cell D__law_cell
  obtain ⟨fd__law_number, D__law_number⟩ := t.d__law_number
  have F__law_number := ok__law_number (P := P) (w := w) (base := base) t D__law_number
  have K__law_number := D__law_number.kp
  have B__law_number := bn__law_number D__law_number
  obtain ⟨fd_Clock_c_drift, D_Clock_c_drift⟩ := t.d_Clock_c_drift
  have F_Clock_c_drift := ok_Clock_c_drift (P := P) (w := w) (base := base) t D_Clock_c_drift
  have K_Clock_c_drift := D_Clock_c_drift.kp
  have B_Clock_c_drift := bn_Clock_c_drift D_Clock_c_drift
  obtain ⟨fd_Clock_c_wait_for, D_Clock_c_wait_for⟩ := t.d_Clock_c_wait_for
  have F_Clock_c_wait_for := ok_Clock_c_wait_for (P := P) (w := w) (base := base) t D_Clock_c_wait_for
  have K_Clock_c_wait_for := D_Clock_c_wait_for.kp
  have B_Clock_c_wait_for := bn_Clock_c_wait_for D_Clock_c_wait_for
  obtain ⟨fd_Span_c_is_past, D_Span_c_is_past⟩ := t.d_Span_c_is_past
  have F_Span_c_is_past := ok_Span_c_is_past (P := P) (w := w) (base := base) t D_Span_c_is_past
  have K_Span_c_is_past := D_Span_c_is_past.kp
  have B_Span_c_is_past := bn_Span_c_is_past D_Span_c_is_past
  obtain ⟨fd__law_is_int, D__law_is_int⟩ := t.d__law_is_int
  have F__law_is_int := ok__law_is_int (P := P) (w := w) (base := base) t D__law_is_int
  have K__law_is_int := D__law_is_int.kp
  have B__law_is_int := bn__law_is_int D__law_is_int
  obtain ⟨fd_Clock_c_span, D_Clock_c_span⟩ := t.d_Clock_c_span
  have F_Clock_c_span := ok_Clock_c_span (P := P) (w := w) (base := base) t D_Clock_c_span
  have K_Clock_c_span := D_Clock_c_span.kp
  have B_Clock_c_span := bn_Clock_c_span D_Clock_c_span
  have nd : N_law.Nodup := sc_law.nd
  refine fn_okD (n := 9) F sc_law rfl (by decide) (by decide) fun cdv A outer s H E hr => ?_
  have hu := hu64 hr
  have hu5 := hu65 hr
  exact (qss_cons (qs_set (i := 1) nd rfl (by first | exact Or.inl rfl | exact Or.inr rfl) (by decide) (qe_sh (qb_ix (qb_of (qe_lst (xqa_cons (qe_op2 op_mod mod_ok (qb_of (qe_callTy call_int1 intc_ok rfl t.b_int (by decide +kernel) (qab_cons (qb_of (qe_callL F__law_cell (hr.mono (by decide)) rfl t.g__law_cell K__law_cell B__law_cell (takes_of rfl rfl rfl rfl) (qab_cons (qb_peek (i := 0) rfl (by first | exact Or.inl rfl | exact Or.inr (Or.inl rfl) | exact Or.inr (Or.inr rfl))) (qab_cons (qb_of qe_int) qab_nil)))) qab_nil))) (qb_of qe_int)) (xqa_cons (qe_callF F__law_number (hr.mono (by decide)) rfl t.g__law_number K__law_number B__law_number (takes_of rfl rfl rfl rfl) (xqa_cons (qe_callL F__law_cell (hr.mono (by decide)) rfl t.g__law_cell K__law_cell B__law_cell (takes_of rfl rfl rfl rfl) (qab_cons (qb_peek (i := 0) rfl (by first | exact Or.inl rfl | exact Or.inr (Or.inl rfl) | exact Or.inr (Or.inr rfl))) (qab_cons (qb_of qe_int) qab_nil))) qa_nil)) qa_nil)))) (qb_of (qe_op2 op_mod mod_ok (qb_of (qe_callTy call_int1 intc_ok rfl t.b_int (by decide +kernel) (qab_cons (qb_of (qe_callL F__law_cell (hr.mono (by decide)) rfl t.g__law_cell K__law_cell B__law_cell (takes_of rfl rfl rfl rfl) (qab_cons (qb_peek (i := 0) rfl (by first | exact Or.inl rfl | exact Or.inr (Or.inl rfl) | exact Or.inr (Or.inr rfl))) (qab_cons (qb_of qe_int) qab_nil)))) qab_nil))) (qb_of qe_int))))))
  (qss_cons (qs_set (i := 2) nd rfl (by first | exact Or.inl rfl | exact Or.inr rfl) (by decide) (qe_make (clT_in (by decide)) t.mk_Clock F_Clock_c___init__ (hr.mono (by decide)) rfl t.g_Clock B_Clock_c___init__ (takes_of rfl rfl rfl rfl) (xqa_cons (qe_var (i := 1) rfl (by first | exact Or.inl rfl | exact Or.inr (Or.inl rfl) | exact Or.inr (Or.inr rfl))) qa_nil)))
  (qss_cons (qs_if (qt_not (qt_of (qb_of (qe_call F__law_shows (hr.mono (by decide)) rfl t.g__law_shows K__law_shows B__law_shows (takes_of rfl rfl rfl rfl) rfl (qai_io (i := 2) rfl (by first | exact Or.inl rfl | exact Or.inr (Or.inl rfl) | exact Or.inr (Or.inr rfl)) (xqai_cons (qe_var (i := 1) rfl (by first | exact Or.inl rfl | exact Or.inr (Or.inl rfl) | exact Or.inr (Or.inr rfl))) (xqai_cons qe_int (xqai_cons (qe_callF F__law_number (hr.mono (by decide)) rfl t.g__law_number K__law_number B__law_number (takes_of rfl rfl rfl rfl) (xqa_cons (qe_callL F__law_cell (hr.mono (by decide)) rfl t.g__law_cell K__law_cell B__law_cell (takes_of rfl rfl rfl rfl) (qab_cons (qb_peek (i := 0) rfl (by first | exact Or.inl rfl | exact Or.inr (Or.inl rfl) | exact Or.inr (Or.inr rfl))) (qab_cons (qb_of qe_int) qab_nil))) qa_nil)) qai_nil)))))))) (qss_one (qs_ret qe_bl)) qss_nil)
  (qss_cons (qs_for (passes_of rfl) rfl (qi_range2 (qb_of qe_int) (qb_of qe_int) rfl t.b_range) (qg_name (i := 3) nd rfl (by first | exact Or.inl rfl | exact Or.inr rfl) (by decide)) (qss_cons (qs_set (i := 4) nd rfl (by first | exact Or.inl rfl | exact Or.inr rfl) (by decide) (qe_callL F__law_cell (hr.mono (by decide)) rfl t.g__law_cell K__law_cell B__law_cell (takes_of rfl rfl rfl rfl) (qab_cons (qb_peek (i := 0) rfl (by first | exact Or.inl rfl | exact Or.inr (Or.inl rfl) | exact Or.inr (Or.inr rfl))) (qab_cons (qb_peek (i := 3) rfl (by first | exact Or.inl rfl | exact Or.inr (Or.inl rfl) | exact Or.inr (Or.inr rfl))) qab_nil))))
  (qss_cons (qs_set (i := 5) nd rfl (by first | exact Or.inl rfl | exact Or.inr rfl) (by decide) (qe_sh (qb_ix (qb_of (qe_lst (xqa_cons (qe_var (i := 1) rfl (by first | exact Or.inl rfl | exact Or.inr (Or.inl rfl) | exact Or.inr (Or.inr rfl))) (xqa_cons (qe_un un_neg neg_ok (qb_peek (i := 1) rfl (by first | exact Or.inl rfl | exact Or.inr (Or.inl rfl) | exact Or.inr (Or.inr rfl)))) (xqa_cons (qe_op2 op_sub sub_ok (qb_of (qe_op2 op_mod mod_ok (qb_of (qe_callTy call_int1 intc_ok rfl t.b_int (by decide +kernel) (qab_cons (qb_peek (i := 4) rfl (by first | exact Or.inl rfl | exact Or.inr (Or.inl rfl) | exact Or.inr (Or.inr rfl))) qab_nil))) (qb_of (qe_op2 op_addU add_ok (qb_of (qe_op2 op_mul mul_ok (qb_of qe_int) (qb_peek (i := 1) rfl (by first | exact Or.inl rfl | exact Or.inr (Or.inl rfl) | exact Or.inr (Or.inr rfl))))) (qb_of qe_int))))) (qb_peek (i := 1) rfl (by first | exact Or.inl rfl | exact Or.inr (Or.inl rfl) | exact Or.inr (Or.inr rfl)))) (xqa_cons qe_int qa_nil)))))) (qb_of (qe_op2 op_mod mod_ok (qb_of (qe_callTy call_int1 intc_ok rfl t.b_int (by decide +kernel) (qab_cons (qb_peek (i := 4) rfl (by first | exact Or.inl rfl | exact Or.inr (Or.inl rfl) | exact Or.inr (Or.inr rfl))) qab_nil))) (qb_of qe_int))))))
  (qss_cons (qs_set (i := 6) nd rfl (by first | exact Or.inl rfl | exact Or.inr rfl) (by decide) (qe_callF F__law_number (hr.mono (by decide)) rfl t.g__law_number K__law_number B__law_number (takes_of rfl rfl rfl rfl) (xqa_cons (qe_op2 op_fdiv div_ok (qb_peek (i := 4) rfl (by first | exact Or.inl rfl | exact Or.inr (Or.inl rfl) | exact Or.inr (Or.inr rfl))) (qb_of qe_int)) qa_nil)))
  (qss_cons (qs_expr (qe_meth (clT_in (by decide)) t.cl_Clock t.me_Clock_c_drift F_Clock_c_drift (hr.mono (by decide)) B_Clock_c_drift (takes_of rfl rfl rfl rfl) rfl (i := 2) rfl (by first | exact Or.inl rfl | exact Or.inr (Or.inl rfl) | exact Or.inr (Or.inr rfl)) (xqai_cons (qe_var (i := 5) rfl (by first | exact Or.inl rfl | exact Or.inr (Or.inl rfl) | exact Or.inr (Or.inr rfl))) qai_nil)))
  (qss_cons (qs_if (QW.qt (xqw_or (qt_not (qt_of (qb_of (qe_call F__law_refused (hr.mono (by decide)) rfl t.g__law_refused K__law_refused B__law_refused (takes_of rfl rfl rfl rfl) rfl (qai_io (i := 2) rfl (by first | exact Or.inl rfl | exact Or.inr (Or.inl rfl) | exact Or.inr (Or.inr rfl)) (xqai_cons qe_int (xqai_cons (qe_op2 op_addU add_ok (qb_of (qe_op2 op_addU add_ok (qb_peek (i := 1) rfl (by first | exact Or.inl rfl | exact Or.inr (Or.inl rfl) | exact Or.inr (Or.inr rfl))) (qb_of qe_int))) (qb_of (qe_op2 op_mod mod_ok (qb_of (qe_callTy call_int1 intc_ok rfl t.b_int (by decide +kernel) (qab_cons (qb_peek (i := 4) rfl (by first | exact Or.inl rfl | exact Or.inr (Or.inl rfl) | exact Or.inr (Or.inr rfl))) qab_nil))) (qb_of qe_int)))) qai_nil))))))) (qw_one_or (qt_not (qt_of (qb_of (qe_call F__law_refused (hr.mono (by decide)) rfl t.g__law_refused K__law_refused B__law_refused (takes_of rfl rfl rfl rfl) rfl (qai_io (i := 2) rfl (by first | exact Or.inl rfl | exact Or.inr (Or.inl rfl) | exact Or.inr (Or.inr rfl)) (xqai_cons qe_int (xqai_cons (qe_op2 op_sub sub_ok (qb_of (qe_op2 op_sub sub_ok (qb_of (qe_un un_neg neg_ok (qb_peek (i := 1) rfl (by first | exact Or.inl rfl | exact Or.inr (Or.inl rfl) | exact Or.inr (Or.inr rfl))))) (qb_of qe_int))) (qb_of (qe_op2 op_mod mod_ok (qb_of (qe_callTy call_int1 intc_ok rfl t.b_int (by decide +kernel) (qab_cons (qb_peek (i := 4) rfl (by first | exact Or.inl rfl | exact Or.inr (Or.inl rfl) | exact Or.inr (Or.inr rfl))) qab_nil))) (qb_of qe_int)))) qai_nil)))))))))) (qss_one (qs_ret qe_bl)) qss_nil)
  (qss_cons (qs_if (QW.qt (xqw_or (qt_not (qt_of (qb_of (qe_call F__law_refused (hr.mono (by decide)) rfl t.g__law_refused K__law_refused B__law_refused (takes_of rfl rfl rfl rfl) rfl (qai_io (i := 2) rfl (by first | exact Or.inl rfl | exact Or.inr (Or.inl rfl) | exact Or.inr (Or.inr rfl)) (xqai_cons qe_int (xqai_cons (qe_op2 op_sub sub_ok (qb_of (qe_un un_neg neg_ok (qb_of qe_int))) (qb_peek (i := 6) rfl (by first | exact Or.inl rfl | exact Or.inr (Or.inl rfl) | exact Or.inr (Or.inr rfl)))) qai_nil))))))) (qw_one_or (qt_not (qt_of (qb_of (qe_call F__law_refused (hr.mono (by decide)) rfl t.g__law_refused K__law_refused B__law_refused (takes_of rfl rfl rfl rfl) rfl (qai_io (i := 2) rfl (by first | exact Or.inl rfl | exact Or.inr (Or.inl rfl) | exact Or.inr (Or.inr rfl)) (xqai_cons qe_int (xqai_cons (qe_op2 op_sub sub_ok (qb_of (qe_un un_neg neg_ok (qb_of qe_int))) (qb_peek (i := 6) rfl (by first | exact Or.inl rfl | exact Or.inr (Or.inl rfl) | exact Or.inr (Or.inr rfl)))) qai_nil)))))))))) (qss_one (qs_ret qe_bl)) qss_nil)
  (qss_cons (qs_if (qt_not (qt_of (qb_of (qe_call F__law_shows (hr.mono (by decide)) rfl t.g__law_shows K__law_shows B__law_shows (takes_of rfl rfl rfl rfl) rfl (qai_io (i := 2) rfl (by first | exact Or.inl rfl | exact Or.inr (Or.inl rfl) | exact Or.inr (Or.inr rfl)) (xqai_cons (qe_var (i := 1) rfl (by first | exact Or.inl rfl | exact Or.inr (Or.inl rfl) | exact Or.inr (Or.inr rfl))) (xqai_cons (qe_var (i := 5) rfl (by first | exact Or.inl rfl | exact Or.inr (Or.inl rfl) | exact Or.inr (Or.inr rfl))) (xqai_cons (qe_var (i := 6) rfl (by first | exact Or.inl rfl | exact Or.inr (Or.inl rfl) | exact Or.inr (Or.inr rfl))) qai_nil)))))))) (qss_one (qs_ret qe_bl)) qss_nil)
  (qss_cons (qs_set (i := 7) nd rfl (by first | exact Or.inl rfl | exact Or.inr rfl) (by decide) (qe_op2 op_addU add_ok (qb_peek (i := 6) rfl (by first | exact Or.inl rfl | exact Or.inr (Or.inl rfl) | exact Or.inr (Or.inr rfl))) (qb_ix (qb_of (qe_lst (xqa_cons qe_int (xqa_cons qe_int (xqa_cons (qe_var (i := 1) rfl (by first | exact Or.inl rfl | exact Or.inr (Or.inl rfl) | exact Or.inr (Or.inr rfl))) (xqa_cons (qe_un un_neg neg_ok (qb_peek (i := 1) rfl (by first | exact Or.inl rfl | exact Or.inr (Or.inl rfl) | exact Or.inr (Or.inr rfl)))) (xqa_cons (qe_op2 op_sub sub_ok (qb_of (qe_op2 op_mod mod_ok (qb_of (qe_callTy call_int1 intc_ok rfl t.b_int (by decide +kernel) (qab_cons (qb_peek (i := 4) rfl (by first | exact Or.inl rfl | exact Or.inr (Or.inl rfl) | exact Or.inr (Or.inr rfl))) qab_nil))) (qb_of qe_int))) (qb_of qe_int)) qa_nil))))))) (qb_of (qe_op2 op_mod mod_ok (qb_of (qe_callTy call_int1 intc_ok rfl t.b_int (by decide +kernel) (qab_cons (qb_peek (i := 4) rfl (by first | exact Or.inl rfl | exact Or.inr (Or.inl rfl) | exact Or.inr (Or.inr rfl))) qab_nil))) (qb_of qe_int))))))
  (qss_cons (qs_set (i := 8) nd rfl (by first | exact Or.inl rfl | exact Or.inr rfl) (by decide) (qe_methK (i := 2) (ks := ["now"]) (clT_in (by decide)) t.cl_Clock t.me_Clock_c_wait_for F_Clock_c_wait_for (hr.mono (by decide)) B_Clock_c_wait_for (takes_of rfl rfl rfl rfl) rfl rfl (by first | exact Or.inl rfl | exact Or.inr (Or.inl rfl) | exact Or.inr (Or.inr rfl)) (qab_cons (qb_peek (i := 7) rfl (by first | exact Or.inl rfl | exact Or.inr (Or.inl rfl) | exact Or.inr (Or.inr rfl))) qab_nil) (qkb_cons (qb_peek (i := 6) rfl (by first | exact Or.inl rfl | exact Or.inr (Or.inl rfl) | exact Or.inr (Or.inr rfl))) qkb_nil)))
  (qss_cons (qs_if (QW.qt (xqw_or (qt_not (qt_of (qb_of (qe_callL F__law_is_int (hr.mono (by decide)) rfl t.g__law_is_int K__law_is_int B__law_is_int (takes_of rfl rfl rfl rfl) (qab_cons (qb_peek (i := 8) rfl (by first | exact Or.inl rfl | exact Or.inr (Or.inl rfl) | exact Or.inr (Or.inr rfl))) qab_nil))))) (xqw_or (qt_cmp op_ltU lt_ok (qb_peek (i := 8) rfl (by first | exact Or.inl rfl | exact Or.inr (Or.inl rfl) | exact Or.inr (Or.inr rfl))) (qb_of qe_int) (nomark _)) (qw_one_or (qt_not (qt_of (qb_of (qe_methB (clT_in (by decide)) t.cl_Span t.me_Span_c_is_past F_Span_c_is_past (hr.mono (by decide)) B_Span_c_is_past (takes_of rfl rfl rfl rfl) (qb_of (qe_meth (clT_in (by decide)) t.cl_Clock t.me_Clock_c_span F_Clock_c_span (hr.mono (by decide)) B_Clock_c_span (takes_of rfl rfl rfl rfl) rfl (i := 2) rfl (by first | exact Or.inl rfl | exact Or.inr (Or.inl rfl) | exact Or.inr (Or.inr rfl)) (xqai_cons (qe_op2 op_addU add_ok (qb_peek (i := 6) rfl (by first | exact Or.inl rfl | exact Or.inr (Or.inl rfl) | exact Or.inr (Or.inr rfl))) (qb_peek (i := 8) rfl (by first | exact Or.inl rfl | exact Or.inr (Or.inl rfl) | exact Or.inr (Or.inr rfl)))) qai_nil))) (qab_cons (qb_peek (i := 7) rfl (by first | exact Or.inl rfl | exact Or.inr (Or.inl rfl) | exact Or.inr (Or.inr rfl))) qab_nil))))))))) (qss_one (qs_ret qe_bl)) qss_nil)
  (qss_one (qs_if (QW.qt (xqw_and (qt_cmp op_gt gt_ok (qb_peek (i := 8) rfl (by first | exact Or.inl rfl | exact Or.inr (Or.inl rfl) | exact Or.inr (Or.inr rfl))) (qb_of qe_int) (nomark _)) (qw_one_and (qt_of (qb_of (qe_methB (clT_in (by decide)) t.cl_Span t.me_Span_c_is_past F_Span_c_is_past (hr.mono (by decide)) B_Span_c_is_past (takes_of rfl rfl rfl rfl) (qb_of (qe_meth (clT_in (by decide)) t.cl_Clock t.me_Clock_c_span F_Clock_c_span (hr.mono (by decide)) B_Clock_c_span (takes_of rfl rfl rfl rfl) rfl (i := 2) rfl (by first | exact Or.inl rfl | exact Or.inr (Or.inl rfl) | exact Or.inr (Or.inr rfl)) (xqai_cons (qe_op2 op_sub sub_ok (qb_of (qe_op2 op_addU add_ok (qb_peek (i := 6) rfl (by first | exact Or.inl rfl | exact Or.inr (Or.inl rfl) | exact Or.inr (Or.inr rfl))) (qb_peek (i := 8) rfl (by first | exact Or.inl rfl | exact Or.inr (Or.inl rfl) | exact Or.inr (Or.inr rfl))))) (qb_of qe_int)) qai_nil))) (qab_cons (qb_peek (i := 7) rfl (by first | exact Or.inl rfl | exact Or.inr (Or.inl rfl) | exact Or.inr (Or.inr rfl))) qab_nil))))))) (qss_one (qs_ret qe_bl)) qss_nil)))))))))))))
  (qss_one (qs_ret (qe_call F__law_refused (hr.mono (by decide)) rfl t.g__law_refused K__law_refused B__law_refused (takes_of rfl rfl rfl rfl) rfl (qai_io (i := 2) rfl (by first | exact Or.inl rfl | exact Or.inr (Or.inl rfl) | exact Or.inr (Or.inr rfl)) (xqai_cons qe_int (xqai_cons (qe_op2 op_sub sub_ok (qb_of (qe_un un_neg neg_ok (qb_of qe_int))) (qb_peek (i := 1) rfl (by first | exact Or.inl rfl | exact Or.inr (Or.inl rfl) | exact Or.inr (Or.inr rfl)))) qai_nil))))))))))
end
/-! ### the head -/
def dd_Clock_c___init__ : He.DefD := ⟨("Clock", some "__init__"), "__init__", "Clock.__init__", defArgs st_Clock_c___init__, defBody st_Clock_c___init__, defScope st_Clock_c___init__, [], []⟩
def dd_Clock_c_drift : He.DefD := ⟨("Clock", some "drift"), "drift", "Clock.drift", defArgs st_Clock_c_drift, defBody st_Clock_c_drift, defScope st_Clock_c_drift, [], []⟩
def dd_Span_c___init__ : He.DefD := ⟨("Span", some "__init__"), "__init__", "Span.__init__", defArgs st_Span_c___init__, defBody st_Span_c___init__, defScope st_Span_c___init__, [], []⟩
def dd_Clock_c_span : He.DefD := ⟨("Clock", some "span"), "span", "Clock.span", defArgs st_Clock_c_span, defBody st_Clock_c_span, defScope st_Clock_c_span, [], []⟩
def dd_Clock_c_wait_for : He.DefD := ⟨("Clock", some "wait_for"), "wait_for", "Clock.wait_for", defArgs st_Clock_c_wait_for, defBody st_Clock_c_wait_for, defScope st_Clock_c_wait_for, [], []⟩
def dd__law_refused : He.DefD := ⟨("_law_refused", none), "_law_refused", "_law_refused", defArgs st__law_refused, defBody st__law_refused, defScope st__law_refused, [], []⟩
def dd_Span_c___contains__ : He.DefD := ⟨("Span", some "__contains__"), "__contains__", "Span.__contains__", defArgs st_Span_c___contains__, defBody st_Span_c___contains__, defScope st_Span_c___contains__, [], []⟩
def dd__law_shows : He.DefD := ⟨("_law_shows", none), "_law_shows", "_law_shows", defArgs st__law_shows, defBody st__law_shows, defScope st__law_shows, [], []⟩
def dd__law_cell : He.DefD := ⟨("_law_cell", none), "_law_cell", "_law_cell", defArgs st__law_cell, defBody st__law_cell, defScope st__law_cell, [], []⟩
def dd__law_number : He.DefD := ⟨("_law_number", none), "_law_number", "_law_number", defArgs st__law_number, defBody st__law_number, defScope st__law_number, [], []⟩
def dd_Span_c_is_past : He.DefD := ⟨("Span", some "is_past"), "is_past", "Span.is_past", defArgs st_Span_c_is_past, defBody st_Span_c_is_past, defScope st_Span_c_is_past, [], []⟩
def dd__law_is_int : He.DefD := ⟨("_law_is_int", none), "_law_is_int", "_law_is_int", defArgs st__law_is_int, defBody st__law_is_int, defScope st__law_is_int, [], []⟩
def dd_law : He.DefD := ⟨("law", none), "law", "law", defArgs st_law, defBody st_law, defScope st_law, [], []⟩
def fn : List He.DefD := [dd_Clock_c___init__, dd_Clock_c_drift, dd_Span_c___init__, dd_Clock_c_span, dd_Clock_c_wait_for, dd__law_refused, dd_Span_c___contains__, dd__law_shows, dd__law_cell, dd__law_number, dd_Span_c_is_past, dd__law_is_int, dd_law]
def fa : List He.Fa := [.glo "MeridianError", .glo "BadArgument", .glo "Span", .glo "Clock", .glo "_law_cell", .glo "_law_is_int", .glo "_law_number", .glo "_law_refused", .glo "_law_shows", .glo "law", .free "abs", .free "bool", .free "int", .free "isinstance", .free "len", .free "max", .free "range", .exc "BadArgument", .cls "Span", .cls "Clock", .meth "Clock" "drift", .meth "Clock" "span", .meth "Clock" "wait_for", .meth "Span" "__contains__", .meth "Span" "is_past", .mkr "Clock", .mkr "Span", .noat "Clock" "bound", .noat "Span" "high", .noat "Span" "low", .noat "Clock" "offset"]
def ex (K : PySem.W.Frag) : Bool := catB cs (.ref (He.ga K "BadArgument")) ["BadArgument"] K
theorem txt_of {w : World} {K : PySem.W.Frag} {h : Heap} {mg : Str → Option Value} (X : K.In h) (G : h.Ns mainGlobals mg) (c : He.SaysX fa fn [] [] ex w h K) : Txt K mg :=
  have hx : (catB cs (.ref (He.ga K "BadArgument")) ["BadArgument"] K) = true := c.more
  { g_MeridianError := He.glo_ok X G (c.t.d.fact 0 (f := .glo "MeridianError") rfl),
    g_BadArgument := He.glo_ok X G (c.t.d.fact 1 (f := .glo "BadArgument") rfl),
    g_Span := He.glo_ok X G (c.t.d.fact 2 (f := .glo "Span") rfl),
    g_Clock := He.glo_ok X G (c.t.d.fact 3 (f := .glo "Clock") rfl),
    g__law_cell := He.glo_ok X G (c.t.d.fact 4 (f := .glo "_law_cell") rfl),
    g__law_is_int := He.glo_ok X G (c.t.d.fact 5 (f := .glo "_law_is_int") rfl),
    g__law_number := He.glo_ok X G (c.t.d.fact 6 (f := .glo "_law_number") rfl),
    g__law_refused := He.glo_ok X G (c.t.d.fact 7 (f := .glo "_law_refused") rfl),
    g__law_shows := He.glo_ok X G (c.t.d.fact 8 (f := .glo "_law_shows") rfl),
    g_law := He.glo_ok X G (c.t.d.fact 9 (f := .glo "law") rfl),
    b_abs := He.free_ok X G (c.t.d.fact 10 (f := .free "abs") rfl),
    b_bool := He.free_ok X G (c.t.d.fact 11 (f := .free "bool") rfl),
    b_int := He.free_ok X G (c.t.d.fact 12 (f := .free "int") rfl),
    b_isinstance := He.free_ok X G (c.t.d.fact 13 (f := .free "isinstance") rfl),
    b_len := He.free_ok X G (c.t.d.fact 14 (f := .free "len") rfl),
    b_max := He.free_ok X G (c.t.d.fact 15 (f := .free "max") rfl),
    b_range := He.free_ok X G (c.t.d.fact 16 (f := .free "range") rfl),
    x_BadArgument := c.t.d.fact 17 (f := .exc "BadArgument") rfl,
    cl_Span := He.cls_ok (c.t.d.fact 18 (f := .cls "Span") rfl),
    cl_Clock := He.cls_ok (c.t.d.fact 19 (f := .cls "Clock") rfl),
    me_Clock_c_drift := He.meth_ok (c.t.d.fact 20 (f := .meth "Clock" "drift") rfl),
    me_Clock_c_span := He.meth_ok (c.t.d.fact 21 (f := .meth "Clock" "span") rfl),
    me_Clock_c_wait_for := He.meth_ok (c.t.d.fact 22 (f := .meth "Clock" "wait_for") rfl),
    me_Span_c___contains__ := He.meth_ok (c.t.d.fact 23 (f := .meth "Span" "__contains__") rfl),
    me_Span_c_is_past := He.meth_ok (c.t.d.fact 24 (f := .meth "Span" "is_past") rfl),
    mk_Clock := He.mkr_ok (c.t.d.fact 25 (f := .mkr "Clock") rfl),
    mk_Span := He.mkr_ok (c.t.d.fact 26 (f := .mkr "Span") rfl),
    f_bound := (fldOk_cons (He.cls_ok (c.t.d.fact 19 (f := .cls "Clock") rfl)) (He.noat_ok (c.t.d.fact 27 (f := .noat "Clock" "bound") rfl)) fldOk_nil),
    f_high := (fldOk_cons (He.cls_ok (c.t.d.fact 18 (f := .cls "Span") rfl)) (He.noat_ok (c.t.d.fact 28 (f := .noat "Span" "high") rfl)) fldOk_nil),
    f_low := (fldOk_cons (He.cls_ok (c.t.d.fact 18 (f := .cls "Span") rfl)) (He.noat_ok (c.t.d.fact 29 (f := .noat "Span" "low") rfl)) fldOk_nil),
    f_offset := (fldOk_cons (He.cls_ok (c.t.d.fact 19 (f := .cls "Clock") rfl)) (He.noat_ok (c.t.d.fact 30 (f := .noat "Clock" "offset") rfl)) fldOk_nil),
    d_Clock_c___init__ := c.t.d.def_ 0 (d := dd_Clock_c___init__) rfl,
    d_Clock_c_drift := c.t.d.def_ 1 (d := dd_Clock_c_drift) rfl,
    d_Span_c___init__ := c.t.d.def_ 2 (d := dd_Span_c___init__) rfl,
    d_Clock_c_span := c.t.d.def_ 3 (d := dd_Clock_c_span) rfl,
    d_Clock_c_wait_for := c.t.d.def_ 4 (d := dd_Clock_c_wait_for) rfl,
    d__law_refused := c.t.d.def_ 5 (d := dd__law_refused) rfl,
    d_Span_c___contains__ := c.t.d.def_ 6 (d := dd_Span_c___contains__) rfl,
    d__law_shows := c.t.d.def_ 7 (d := dd__law_shows) rfl,
    d__law_cell := c.t.d.def_ 8 (d := dd__law_cell) rfl,
    d__law_number := c.t.d.def_ 9 (d := dd__law_number) rfl,
    d_Span_c_is_past := c.t.d.def_ 10 (d := dd_Span_c_is_past) rfl,
    d__law_is_int := c.t.d.def_ 11 (d := dd__law_is_int) rfl,
    d_law := c.t.d.def_ 12 (d := dd_law) rfl,
    c_BadArgument := hx }
abbrev R : PySem.W.OpenRow := PySem.W.OpenLaw.row PySem.Challenge.rw_meridian_k07_clocks_within_bound
abbrev hk : PySem.W.Hook := He.hookX 5 fa fn [] [] ex
def ob (s : PySem.W.SharedT) : He.AlX := He.obsX 5 fa fn [] [] ex (HandSHeadRun.getT s)
theorem ob_eq (s : PySem.W.SharedT) : ob s = hk.obs s.abs := He.obsX_eq (HandSHeadRun.getT_eq s)
def loose : List Str := (["_wall", "MeridianError", "BadArgument", "Span", "Clock", "_law_cell", "_law_is_int", "_law_number", "_law_refused", "_law_shows"] : List Str)
theorem run (w : World) : HandSHeadRun.RunEq R (PySem.W.view R.prog [14]) hk ob 6000 loose w := by
  intro os
  kernel_rfl
end Law

namespace Law
open PySem L2 VL
/-- the cell k of the script -/
def cell (ns : List Int) (k : Nat) : Int := match ns[k]? with
  | some i => if i < 0 then -i else i
  | none => 0
theorem cell_nonneg (ns : List Int) (k : Nat) : 0 ≤ cell ns k := by
  unfold cell
  split
  · split <;> omega
  · exact Int.le_refl _
theorem run_cell (ns : List Int) (k : Nat) : m__law_cell [.lst false (ns.map D.int), .int k] = .ok (.int (cell ns k)) [] := by
  refine fn_is ?_
  by_cases h : k < ns.length
  · have e := fIx_map (e := D.int) (o := false) (List.getElem?_eq_getElem h)
    have h' : (k : Int) < ns.length := by omega
    simp only [sat_ret_eq, sat_ok_eq, sat_ex_eq, sat_no_eq, sat_ite_eq, sat_opt_eq, sat_ck_eq, optK_some, optK_none, optK_ite, sat_peek, sat_move, sat_var, varK_leaf, varK_fz, varK_own, varK_shr, moveK_eq, sat_op1, sat_op2, sat_ix, sat_opN, op1K_eq, op2L_eq, opNK_eq, sat_nil, sat_cons, consL_eq, consR_eq, sat_lst, sat_tup, lstK_eq, tupK_eq, sat_sh, shK_eq, sat_test, testK_bl, sat_notT, notK_eq, sat_andT, sat_orT, andK_eq, orK_eq, sat_and, sat_or, sat_not, blK_bl, andDK_eq, orDK_eq, notDK_eq, sat_ifD, ifDK_eq, sat_isi, isiK_eq, sat_chain, chainL_eq, chainM_eq, chainR_eq, sat_sl, slD_eq, slL_eq, slH_eq, sat_part, partK_int, runF_toF, runB_toB, toF_ok, toF_ex, toB_ok, toB_ex, sat_callF, sat_callB, callFK_eq, callBK_eq, sat_callFD, sat_callBD, callFDK_eq, callBDK_eq, sat_seq, seqK_nx, seqK_rt, seqK_bk, seqK_ct, sat_if, ifK_eq, sat_asg, asgK_put, asgK_tup, gasK_nil, gasK_cons, sat_setIx, setL_eq, setR_int, sat_drop, sat_mret, sat_retN, sat_raise, drpK_eq, retK_eq, sat_for, forK_eq, sat_comp, compK_eq, sat_iSeq, sat_iAny, seqSK_lst, seqSK_tup, anySK_str, anySK_lst, anySK_tup, sat_iRg1, rg1K_int, sat_iRg2, rg2L_int, rg2R_int, sat_append, appK, isL, ownL?, sat_extend, extK_own, sat_m1, m1L_str, m1R_eq, sat_aug, augL_int, augR_int, sat_join, joinL_str, joinR_eq, sat_tryAs, sat_try, tryX_eq, tryAsX_eq, sat_lf, lfK_leaf, sat_methK, methK0_eq, methKL_eq, methKR_eq, methKE_eq, isLf_leaf, sat_inO, inOL_eq, inOR_eq, blO_bl, sat_isC, fIsC_ins, fIsC_non, sat_fld, fFld_eq, fldD_eq, sat_setFld, setFldK_eq, putF?_nil, putF?_cons, sat_methB, methBL_eq, methBR_eq, isC_eq, sat_callIo, callIoK_eq, sat_meth, toM_ok, toM_ex, sat_make, makeK_eq, ansK0_rt, ansK0_nx, ansX0_eq, back_ok0, back_ex0, ansK_rt, ansK_nx, ansX_eq, isR_eq, loopOk_nx, loopOk_ct, loopOk_bk, loopOk_rt, slot0, slot0n, slotS, List.mem_cons, List.not_mem_nil, String.reduceEq, List.set_cons_zero, List.set_cons_succ, List.length_cons, List.length_nil, List.length_map, List.map_cons, List.map_nil, List.cons_append, List.nil_append, List.append_nil, List.replicate_succ, List.replicate_zero, List.all_cons, List.all_nil, frzL_nil, frzL_cons, frz_leaf, frz_node, frzL_ints, frzL_st, shr_leaf, shr_node, shr_ints, hide, unhide, List.foldl_cons, List.foldl_nil, gPut_app, fLt_int, fLe_int, fGt_int, fGe_int, fAdd_int, fSub_int, fNeg_int, fAbs_int, fIntC_int, fIntC_bl, fMax2_int, fMin2_int, fMod_int, fDiv_int, fMul_l, fMul_r, pow_10_12, pow_10_15, pow_10_18, pow_10_20, pow_10_30, pow_10_60, pow_2_62, pow_2_63, pow_2_64, fLen_lst, fLen_tup, fEq_int, fNe_int, fEq_bl, fNe_bl, fListOf_ints, fEq_lit, fNe_lit, fIs_non, fIsNot_non, isNon_non, isNon_int, isNon_bl, isNon_str, isNon_node, fIx0, fIx1, fIx2, fIx3, fIx4, fIx5, fIt0, fIt1, fIt2, fIt3, fIt4, fIt5, isi_ii, isi_ib, isi_is, isi_in, isi_il, isi_it, isi_bi, isi_bb, isi_bs, isi_bn, isi_bL, isi_bt, isi_si, isi_sb, isi_ss, isi_sn, isi_sl, isi_st, isi_li, isi_lb, isi_ls, isi_ln, isi_ll, isi_lt, isi_ti, isi_tb, isi_ts, isi_tn, isi_tl, isi_tt, tyD_non, tyD_bl, tyD_int, tyD_str, tyD_lst, tyD_tup, noIns_leaf, noIns_lst, noIns_tup, bl?_bl, Option.bind_some, le_size, lt_size, Bool.not_true, Bool.not_false, Bool.false_eq_true, Bool.true_eq_false, if_true, if_false, true_and, and_true, false_and, and_false, decide_eq_true_eq, Bool.not_eq_true', decide_eq_false_iff_not, decide_true, decide_false, Bool.true_and, Bool.and_true, Bool.false_and, Bool.not_not, Option.some.injEq, and_self, true_or, or_true, false_or, or_false, not_true_eq_false, not_false_eq_true, eq_self, Int.toNat_natCast, Int.zero_add, Int.cast_ofNat_Int, Nat.zero_le, Nat.zero_lt_succ, Nat.reduceAdd, Nat.reduceSub, Nat.reduceLT, Nat.reduceLeDiff, Nat.reduceEqDiff, Int.reduceLT, Int.reduceLE, Int.reduceNeg, Int.reduceToNat, Int.reduceAdd, Int.reduceSub, Int.reduceMul, Int.reduceEq, reduceIte, h', e, cell, List.getElem?_eq_getElem h, shr_ints]
  · have h' : ¬ (k : Int) < ns.length := by omega
    simp only [sat_ret_eq, sat_ok_eq, sat_ex_eq, sat_no_eq, sat_ite_eq, sat_opt_eq, sat_ck_eq, optK_some, optK_none, optK_ite, sat_peek, sat_move, sat_var, varK_leaf, varK_fz, varK_own, varK_shr, moveK_eq, sat_op1, sat_op2, sat_ix, sat_opN, op1K_eq, op2L_eq, opNK_eq, sat_nil, sat_cons, consL_eq, consR_eq, sat_lst, sat_tup, lstK_eq, tupK_eq, sat_sh, shK_eq, sat_test, testK_bl, sat_notT, notK_eq, sat_andT, sat_orT, andK_eq, orK_eq, sat_and, sat_or, sat_not, blK_bl, andDK_eq, orDK_eq, notDK_eq, sat_ifD, ifDK_eq, sat_isi, isiK_eq, sat_chain, chainL_eq, chainM_eq, chainR_eq, sat_sl, slD_eq, slL_eq, slH_eq, sat_part, partK_int, runF_toF, runB_toB, toF_ok, toF_ex, toB_ok, toB_ex, sat_callF, sat_callB, callFK_eq, callBK_eq, sat_callFD, sat_callBD, callFDK_eq, callBDK_eq, sat_seq, seqK_nx, seqK_rt, seqK_bk, seqK_ct, sat_if, ifK_eq, sat_asg, asgK_put, asgK_tup, gasK_nil, gasK_cons, sat_setIx, setL_eq, setR_int, sat_drop, sat_mret, sat_retN, sat_raise, drpK_eq, retK_eq, sat_for, forK_eq, sat_comp, compK_eq, sat_iSeq, sat_iAny, seqSK_lst, seqSK_tup, anySK_str, anySK_lst, anySK_tup, sat_iRg1, rg1K_int, sat_iRg2, rg2L_int, rg2R_int, sat_append, appK, isL, ownL?, sat_extend, extK_own, sat_m1, m1L_str, m1R_eq, sat_aug, augL_int, augR_int, sat_join, joinL_str, joinR_eq, sat_tryAs, sat_try, tryX_eq, tryAsX_eq, sat_lf, lfK_leaf, sat_methK, methK0_eq, methKL_eq, methKR_eq, methKE_eq, isLf_leaf, sat_inO, inOL_eq, inOR_eq, blO_bl, sat_isC, fIsC_ins, fIsC_non, sat_fld, fFld_eq, fldD_eq, sat_setFld, setFldK_eq, putF?_nil, putF?_cons, sat_methB, methBL_eq, methBR_eq, isC_eq, sat_callIo, callIoK_eq, sat_meth, toM_ok, toM_ex, sat_make, makeK_eq, ansK0_rt, ansK0_nx, ansX0_eq, back_ok0, back_ex0, ansK_rt, ansK_nx, ansX_eq, isR_eq, loopOk_nx, loopOk_ct, loopOk_bk, loopOk_rt, slot0, slot0n, slotS, List.mem_cons, List.not_mem_nil, String.reduceEq, List.set_cons_zero, List.set_cons_succ, List.length_cons, List.length_nil, List.length_map, List.map_cons, List.map_nil, List.cons_append, List.nil_append, List.append_nil, List.replicate_succ, List.replicate_zero, List.all_cons, List.all_nil, frzL_nil, frzL_cons, frz_leaf, frz_node, frzL_ints, frzL_st, shr_leaf, shr_node, shr_ints, hide, unhide, List.foldl_cons, List.foldl_nil, gPut_app, fLt_int, fLe_int, fGt_int, fGe_int, fAdd_int, fSub_int, fNeg_int, fAbs_int, fIntC_int, fIntC_bl, fMax2_int, fMin2_int, fMod_int, fDiv_int, fMul_l, fMul_r, pow_10_12, pow_10_15, pow_10_18, pow_10_20, pow_10_30, pow_10_60, pow_2_62, pow_2_63, pow_2_64, fLen_lst, fLen_tup, fEq_int, fNe_int, fEq_bl, fNe_bl, fListOf_ints, fEq_lit, fNe_lit, fIs_non, fIsNot_non, isNon_non, isNon_int, isNon_bl, isNon_str, isNon_node, fIx0, fIx1, fIx2, fIx3, fIx4, fIx5, fIt0, fIt1, fIt2, fIt3, fIt4, fIt5, isi_ii, isi_ib, isi_is, isi_in, isi_il, isi_it, isi_bi, isi_bb, isi_bs, isi_bn, isi_bL, isi_bt, isi_si, isi_sb, isi_ss, isi_sn, isi_sl, isi_st, isi_li, isi_lb, isi_ls, isi_ln, isi_ll, isi_lt, isi_ti, isi_tb, isi_ts, isi_tn, isi_tl, isi_tt, tyD_non, tyD_bl, tyD_int, tyD_str, tyD_lst, tyD_tup, noIns_leaf, noIns_lst, noIns_tup, bl?_bl, Option.bind_some, le_size, lt_size, Bool.not_true, Bool.not_false, Bool.false_eq_true, Bool.true_eq_false, if_true, if_false, true_and, and_true, false_and, and_false, decide_eq_true_eq, Bool.not_eq_true', decide_eq_false_iff_not, decide_true, decide_false, Bool.true_and, Bool.and_true, Bool.false_and, Bool.not_not, Option.some.injEq, and_self, true_or, or_true, false_or, or_false, not_true_eq_false, not_false_eq_true, eq_self, Int.toNat_natCast, Int.zero_add, Int.cast_ofNat_Int, Nat.zero_le, Nat.zero_lt_succ, Nat.reduceAdd, Nat.reduceSub, Nat.reduceLT, Nat.reduceLeDiff, Nat.reduceEqDiff, Int.reduceLT, Int.reduceLE, Int.reduceNeg, Int.reduceToNat, Int.reduceAdd, Int.reduceSub, Int.reduceMul, Int.reduceEq, reduceIte, h', cell, List.getElem?_eq_none (Nat.le_of_not_lt h)]
theorem run_is_int (i : Int) : m__law_is_int [.int i] = .ok (.bl true) [] := by
  have e1 : isiB "int" "int" = true := by decide +kernel
  have e2 : isiB "bool" "int" = false := by decide +kernel
  refine fn_is ?_
  simp only [sat_ret_eq, sat_ok_eq, sat_ex_eq, sat_no_eq, sat_ite_eq, sat_opt_eq, sat_ck_eq, optK_some, optK_none, optK_ite, sat_peek, sat_move, sat_var, varK_leaf, varK_fz, varK_own, varK_shr, moveK_eq, sat_op1, sat_op2, sat_ix, sat_opN, op1K_eq, op2L_eq, opNK_eq, sat_nil, sat_cons, consL_eq, consR_eq, sat_lst, sat_tup, lstK_eq, tupK_eq, sat_sh, shK_eq, sat_test, testK_bl, sat_notT, notK_eq, sat_andT, sat_orT, andK_eq, orK_eq, sat_and, sat_or, sat_not, blK_bl, andDK_eq, orDK_eq, notDK_eq, sat_ifD, ifDK_eq, sat_isi, isiK_eq, sat_chain, chainL_eq, chainM_eq, chainR_eq, sat_sl, slD_eq, slL_eq, slH_eq, sat_part, partK_int, runF_toF, runB_toB, toF_ok, toF_ex, toB_ok, toB_ex, sat_callF, sat_callB, callFK_eq, callBK_eq, sat_callFD, sat_callBD, callFDK_eq, callBDK_eq, sat_seq, seqK_nx, seqK_rt, seqK_bk, seqK_ct, sat_if, ifK_eq, sat_asg, asgK_put, asgK_tup, gasK_nil, gasK_cons, sat_setIx, setL_eq, setR_int, sat_drop, sat_mret, sat_retN, sat_raise, drpK_eq, retK_eq, sat_for, forK_eq, sat_comp, compK_eq, sat_iSeq, sat_iAny, seqSK_lst, seqSK_tup, anySK_str, anySK_lst, anySK_tup, sat_iRg1, rg1K_int, sat_iRg2, rg2L_int, rg2R_int, sat_append, appK, isL, ownL?, sat_extend, extK_own, sat_m1, m1L_str, m1R_eq, sat_aug, augL_int, augR_int, sat_join, joinL_str, joinR_eq, sat_tryAs, sat_try, tryX_eq, tryAsX_eq, sat_lf, lfK_leaf, sat_methK, methK0_eq, methKL_eq, methKR_eq, methKE_eq, isLf_leaf, sat_inO, inOL_eq, inOR_eq, blO_bl, sat_isC, fIsC_ins, fIsC_non, sat_fld, fFld_eq, fldD_eq, sat_setFld, setFldK_eq, putF?_nil, putF?_cons, sat_methB, methBL_eq, methBR_eq, isC_eq, sat_callIo, callIoK_eq, sat_meth, toM_ok, toM_ex, sat_make, makeK_eq, ansK0_rt, ansK0_nx, ansX0_eq, back_ok0, back_ex0, ansK_rt, ansK_nx, ansX_eq, isR_eq, loopOk_nx, loopOk_ct, loopOk_bk, loopOk_rt, slot0, slot0n, slotS, List.mem_cons, List.not_mem_nil, String.reduceEq, List.set_cons_zero, List.set_cons_succ, List.length_cons, List.length_nil, List.length_map, List.map_cons, List.map_nil, List.cons_append, List.nil_append, List.append_nil, List.replicate_succ, List.replicate_zero, List.all_cons, List.all_nil, frzL_nil, frzL_cons, frz_leaf, frz_node, frzL_ints, frzL_st, shr_leaf, shr_node, shr_ints, hide, unhide, List.foldl_cons, List.foldl_nil, gPut_app, fLt_int, fLe_int, fGt_int, fGe_int, fAdd_int, fSub_int, fNeg_int, fAbs_int, fIntC_int, fIntC_bl, fMax2_int, fMin2_int, fMod_int, fDiv_int, fMul_l, fMul_r, pow_10_12, pow_10_15, pow_10_18, pow_10_20, pow_10_30, pow_10_60, pow_2_62, pow_2_63, pow_2_64, fLen_lst, fLen_tup, fEq_int, fNe_int, fEq_bl, fNe_bl, fListOf_ints, fEq_lit, fNe_lit, fIs_non, fIsNot_non, isNon_non, isNon_int, isNon_bl, isNon_str, isNon_node, fIx0, fIx1, fIx2, fIx3, fIx4, fIx5, fIt0, fIt1, fIt2, fIt3, fIt4, fIt5, isi_ii, isi_ib, isi_is, isi_in, isi_il, isi_it, isi_bi, isi_bb, isi_bs, isi_bn, isi_bL, isi_bt, isi_si, isi_sb, isi_ss, isi_sn, isi_sl, isi_st, isi_li, isi_lb, isi_ls, isi_ln, isi_ll, isi_lt, isi_ti, isi_tb, isi_ts, isi_tn, isi_tl, isi_tt, tyD_non, tyD_bl, tyD_int, tyD_str, tyD_lst, tyD_tup, noIns_leaf, noIns_lst, noIns_tup, bl?_bl, Option.bind_some, le_size, lt_size, Bool.not_true, Bool.not_false, Bool.false_eq_true, Bool.true_eq_false, if_true, if_false, true_and, and_true, false_and, and_false, decide_eq_true_eq, Bool.not_eq_true', decide_eq_false_iff_not, decide_true, decide_false, Bool.true_and, Bool.and_true, Bool.false_and, Bool.not_not, Option.some.injEq, and_self, true_or, or_true, false_or, or_false, not_true_eq_false, not_false_eq_true, eq_self, Int.toNat_natCast, Int.zero_add, Int.cast_ofNat_Int, Nat.zero_le, Nat.zero_lt_succ, Nat.reduceAdd, Nat.reduceSub, Nat.reduceLT, Nat.reduceLeDiff, Nat.reduceEqDiff, Int.reduceLT, Int.reduceLE, Int.reduceNeg, Int.reduceToNat, Int.reduceAdd, Int.reduceSub, Int.reduceMul, Int.reduceEq, reduceIte, noIns, tyD, e1, e2]
/-- an item of a written list of numbers -/
theorem pickL {o : Bool} (L : List Int) (i : Int) (h0 : 0 ≤ i) (h : i < L.length) : ∃ y, y ∈ L ∧ fIx (.node o .lst (L.map D.int)) (.int i) = some (.int y) := by
  obtain ⟨n, rfl⟩ : ∃ n : Nat, i = n := ⟨i.toNat, (Int.toNat_of_nonneg h0).symm⟩
  have hn : n < L.length := by omega
  exact ⟨L[n], List.getElem_mem hn, fIx_map (List.getElem?_eq_getElem hn)⟩
def sel3 (a b c i : Int) : Int := if i = 0 then a else if i = 1 then b else c
theorem sel3_ix {o : Bool} (a b c i : Int) (h0 : 0 ≤ i) (h : i < 3) : fIx (.node o .lst [.int a, .int b, .int c]) (.int i) = some (.int (sel3 a b c i)) := by
  have : i = 0 ∨ i = 1 ∨ i = 2 := by omega
  rcases this with rfl | rfl | rfl
  · exact fIx0
  · exact fIx1
  · exact fIx2
theorem md_nn (i : Int) (n : Int) (h : 0 < n) : 0 ≤ i % n ∧ i % n < n := ⟨Int.emod_nonneg _ (Int.ne_of_gt h), Int.emod_lt_of_pos _ h⟩
theorem run_number (c : Int) (hc : 0 ≤ c) : ∃ y, 0 ≤ y ∧ m__law_number [.int c] = .ok (.int y) [] := by
  refine fn_sat (P := fun z => ∃ y, 0 ≤ y ∧ z = .ok (.int y) []) ?_
  obtain ⟨y, hy, e⟩ := pickL (o := true) [0, 1, 127, 128, 129, 16383, 16384, 16385, c] (c % 9) (md_nn c 9 (by decide)).1 (md_nn c 9 (by decide)).2
  simp only [List.map_cons, List.map_nil] at e
  have hy : 0 ≤ y := by
    simp only [List.mem_cons, List.not_mem_nil, or_false] at hy
    omega
  have p60 : ∀ i, fMod (.int i) (.int 1000000000000000000000000000000000000000000000000000000000000) = some (.int (i % 1000000000000000000000000000000000000000000000000000000000000)) := fun i => fMod_int _ _ (by decide)
  by_cases h : c < 1000000000000000000
  · have h := decide_eq_true h
    simp only [sat_ret_eq, sat_ok_eq, sat_ex_eq, sat_no_eq, sat_ite_eq, sat_opt_eq, sat_ck_eq, optK_some, optK_none, optK_ite, sat_peek, sat_move, sat_var, varK_leaf, varK_fz, varK_own, varK_shr, moveK_eq, sat_op1, sat_op2, sat_ix, sat_opN, op1K_eq, op2L_eq, opNK_eq, sat_nil, sat_cons, consL_eq, consR_eq, sat_lst, sat_tup, lstK_eq, tupK_eq, sat_sh, shK_eq, sat_test, testK_bl, sat_notT, notK_eq, sat_andT, sat_orT, andK_eq, orK_eq, sat_and, sat_or, sat_not, blK_bl, andDK_eq, orDK_eq, notDK_eq, sat_ifD, ifDK_eq, sat_isi, isiK_eq, sat_chain, chainL_eq, chainM_eq, chainR_eq, sat_sl, slD_eq, slL_eq, slH_eq, sat_part, partK_int, runF_toF, runB_toB, toF_ok, toF_ex, toB_ok, toB_ex, sat_callF, sat_callB, callFK_eq, callBK_eq, sat_callFD, sat_callBD, callFDK_eq, callBDK_eq, sat_seq, seqK_nx, seqK_rt, seqK_bk, seqK_ct, sat_if, ifK_eq, sat_asg, asgK_put, asgK_tup, gasK_nil, gasK_cons, sat_setIx, setL_eq, setR_int, sat_drop, sat_mret, sat_retN, sat_raise, drpK_eq, retK_eq, sat_for, forK_eq, sat_comp, compK_eq, sat_iSeq, sat_iAny, seqSK_lst, seqSK_tup, anySK_str, anySK_lst, anySK_tup, sat_iRg1, rg1K_int, sat_iRg2, rg2L_int, rg2R_int, sat_append, appK, isL, ownL?, sat_extend, extK_own, sat_m1, m1L_str, m1R_eq, sat_aug, augL_int, augR_int, sat_join, joinL_str, joinR_eq, sat_tryAs, sat_try, tryX_eq, tryAsX_eq, sat_lf, lfK_leaf, sat_methK, methK0_eq, methKL_eq, methKR_eq, methKE_eq, isLf_leaf, sat_inO, inOL_eq, inOR_eq, blO_bl, sat_isC, fIsC_ins, fIsC_non, sat_fld, fFld_eq, fldD_eq, sat_setFld, setFldK_eq, putF?_nil, putF?_cons, sat_methB, methBL_eq, methBR_eq, isC_eq, sat_callIo, callIoK_eq, sat_meth, toM_ok, toM_ex, sat_make, makeK_eq, ansK0_rt, ansK0_nx, ansX0_eq, back_ok0, back_ex0, ansK_rt, ansK_nx, ansX_eq, isR_eq, loopOk_nx, loopOk_ct, loopOk_bk, loopOk_rt, slot0, slot0n, slotS, List.mem_cons, List.not_mem_nil, String.reduceEq, List.set_cons_zero, List.set_cons_succ, List.length_cons, List.length_nil, List.length_map, List.map_cons, List.map_nil, List.cons_append, List.nil_append, List.append_nil, List.replicate_succ, List.replicate_zero, List.all_cons, List.all_nil, frzL_nil, frzL_cons, frz_leaf, frz_node, frzL_ints, frzL_st, shr_leaf, shr_node, shr_ints, hide, unhide, List.foldl_cons, List.foldl_nil, gPut_app, fLt_int, fLe_int, fGt_int, fGe_int, fAdd_int, fSub_int, fNeg_int, fAbs_int, fIntC_int, fIntC_bl, fMax2_int, fMin2_int, fMod_int, fDiv_int, fMul_l, fMul_r, pow_10_12, pow_10_15, pow_10_18, pow_10_20, pow_10_30, pow_10_60, pow_2_62, pow_2_63, pow_2_64, fLen_lst, fLen_tup, fEq_int, fNe_int, fEq_bl, fNe_bl, fListOf_ints, fEq_lit, fNe_lit, fIs_non, fIsNot_non, isNon_non, isNon_int, isNon_bl, isNon_str, isNon_node, fIx0, fIx1, fIx2, fIx3, fIx4, fIx5, fIt0, fIt1, fIt2, fIt3, fIt4, fIt5, isi_ii, isi_ib, isi_is, isi_in, isi_il, isi_it, isi_bi, isi_bb, isi_bs, isi_bn, isi_bL, isi_bt, isi_si, isi_sb, isi_ss, isi_sn, isi_sl, isi_st, isi_li, isi_lb, isi_ls, isi_ln, isi_ll, isi_lt, isi_ti, isi_tb, isi_ts, isi_tn, isi_tl, isi_tt, tyD_non, tyD_bl, tyD_int, tyD_str, tyD_lst, tyD_tup, noIns_leaf, noIns_lst, noIns_tup, bl?_bl, Option.bind_some, le_size, lt_size, Bool.not_true, Bool.not_false, Bool.false_eq_true, Bool.true_eq_false, if_true, if_false, true_and, and_true, false_and, and_false, decide_eq_true_eq, Bool.not_eq_true', decide_eq_false_iff_not, decide_true, decide_false, Bool.true_and, Bool.and_true, Bool.false_and, Bool.not_not, Option.some.injEq, and_self, true_or, or_true, false_or, or_false, not_true_eq_false, not_false_eq_true, eq_self, Int.toNat_natCast, Int.zero_add, Int.cast_ofNat_Int, Nat.zero_le, Nat.zero_lt_succ, Nat.reduceAdd, Nat.reduceSub, Nat.reduceLT, Nat.reduceLeDiff, Nat.reduceEqDiff, Int.reduceLT, Int.reduceLE, Int.reduceNeg, Int.reduceToNat, Int.reduceAdd, Int.reduceSub, Int.reduceMul, Int.reduceEq, reduceIte, h, e]
    exact ⟨y, hy, rfl⟩
  · have h := decide_eq_false h
    simp only [sat_ret_eq, sat_ok_eq, sat_ex_eq, sat_no_eq, sat_ite_eq, sat_opt_eq, sat_ck_eq, optK_some, optK_none, optK_ite, sat_peek, sat_move, sat_var, varK_leaf, varK_fz, varK_own, varK_shr, moveK_eq, sat_op1, sat_op2, sat_ix, sat_opN, op1K_eq, op2L_eq, opNK_eq, sat_nil, sat_cons, consL_eq, consR_eq, sat_lst, sat_tup, lstK_eq, tupK_eq, sat_sh, shK_eq, sat_test, testK_bl, sat_notT, notK_eq, sat_andT, sat_orT, andK_eq, orK_eq, sat_and, sat_or, sat_not, blK_bl, andDK_eq, orDK_eq, notDK_eq, sat_ifD, ifDK_eq, sat_isi, isiK_eq, sat_chain, chainL_eq, chainM_eq, chainR_eq, sat_sl, slD_eq, slL_eq, slH_eq, sat_part, partK_int, runF_toF, runB_toB, toF_ok, toF_ex, toB_ok, toB_ex, sat_callF, sat_callB, callFK_eq, callBK_eq, sat_callFD, sat_callBD, callFDK_eq, callBDK_eq, sat_seq, seqK_nx, seqK_rt, seqK_bk, seqK_ct, sat_if, ifK_eq, sat_asg, asgK_put, asgK_tup, gasK_nil, gasK_cons, sat_setIx, setL_eq, setR_int, sat_drop, sat_mret, sat_retN, sat_raise, drpK_eq, retK_eq, sat_for, forK_eq, sat_comp, compK_eq, sat_iSeq, sat_iAny, seqSK_lst, seqSK_tup, anySK_str, anySK_lst, anySK_tup, sat_iRg1, rg1K_int, sat_iRg2, rg2L_int, rg2R_int, sat_append, appK, isL, ownL?, sat_extend, extK_own, sat_m1, m1L_str, m1R_eq, sat_aug, augL_int, augR_int, sat_join, joinL_str, joinR_eq, sat_tryAs, sat_try, tryX_eq, tryAsX_eq, sat_lf, lfK_leaf, sat_methK, methK0_eq, methKL_eq, methKR_eq, methKE_eq, isLf_leaf, sat_inO, inOL_eq, inOR_eq, blO_bl, sat_isC, fIsC_ins, fIsC_non, sat_fld, fFld_eq, fldD_eq, sat_setFld, setFldK_eq, putF?_nil, putF?_cons, sat_methB, methBL_eq, methBR_eq, isC_eq, sat_callIo, callIoK_eq, sat_meth, toM_ok, toM_ex, sat_make, makeK_eq, ansK0_rt, ansK0_nx, ansX0_eq, back_ok0, back_ex0, ansK_rt, ansK_nx, ansX_eq, isR_eq, loopOk_nx, loopOk_ct, loopOk_bk, loopOk_rt, slot0, slot0n, slotS, List.mem_cons, List.not_mem_nil, String.reduceEq, List.set_cons_zero, List.set_cons_succ, List.length_cons, List.length_nil, List.length_map, List.map_cons, List.map_nil, List.cons_append, List.nil_append, List.append_nil, List.replicate_succ, List.replicate_zero, List.all_cons, List.all_nil, frzL_nil, frzL_cons, frz_leaf, frz_node, frzL_ints, frzL_st, shr_leaf, shr_node, shr_ints, hide, unhide, List.foldl_cons, List.foldl_nil, gPut_app, fLt_int, fLe_int, fGt_int, fGe_int, fAdd_int, fSub_int, fNeg_int, fAbs_int, fIntC_int, fIntC_bl, fMax2_int, fMin2_int, fMod_int, fDiv_int, fMul_l, fMul_r, pow_10_12, pow_10_15, pow_10_18, pow_10_20, pow_10_30, pow_10_60, pow_2_62, pow_2_63, pow_2_64, fLen_lst, fLen_tup, fEq_int, fNe_int, fEq_bl, fNe_bl, fListOf_ints, fEq_lit, fNe_lit, fIs_non, fIsNot_non, isNon_non, isNon_int, isNon_bl, isNon_str, isNon_node, fIx0, fIx1, fIx2, fIx3, fIx4, fIx5, fIt0, fIt1, fIt2, fIt3, fIt4, fIt5, isi_ii, isi_ib, isi_is, isi_in, isi_il, isi_it, isi_bi, isi_bb, isi_bs, isi_bn, isi_bL, isi_bt, isi_si, isi_sb, isi_ss, isi_sn, isi_sl, isi_st, isi_li, isi_lb, isi_ls, isi_ln, isi_ll, isi_lt, isi_ti, isi_tb, isi_ts, isi_tn, isi_tl, isi_tt, tyD_non, tyD_bl, tyD_int, tyD_str, tyD_lst, tyD_tup, noIns_leaf, noIns_lst, noIns_tup, bl?_bl, Option.bind_some, le_size, lt_size, Bool.not_true, Bool.not_false, Bool.false_eq_true, Bool.true_eq_false, if_true, if_false, true_and, and_true, false_and, and_false, decide_eq_true_eq, Bool.not_eq_true', decide_eq_false_iff_not, decide_true, decide_false, Bool.true_and, Bool.and_true, Bool.false_and, Bool.not_not, Option.some.injEq, and_self, true_or, or_true, false_or, or_false, not_true_eq_false, not_false_eq_true, eq_self, Int.toNat_natCast, Int.zero_add, Int.cast_ofNat_Int, Nat.zero_le, Nat.zero_lt_succ, Nat.reduceAdd, Nat.reduceSub, Nat.reduceLT, Nat.reduceLeDiff, Nat.reduceEqDiff, Int.reduceLT, Int.reduceLE, Int.reduceNeg, Int.reduceToNat, Int.reduceAdd, Int.reduceSub, Int.reduceMul, Int.reduceEq, reduceIte, h, p60]
    exact ⟨_, Int.emod_nonneg _ (by decide), rfl⟩
abbrev spanD (o : Bool) (lo hi : Int) : D := .node o (.ins "Span" ["low", "high"]) [.int lo, .int hi]
abbrev clk (o : Bool) (b f : Int) : D := .node o (.ins "Clock" ["bound", "offset"]) [.int b, .int f]
theorem run_span0 (lo hi : Int) (h : lo ≤ hi) : m_Span_c___init__ [.node true (.ins "Span" []) [], .int lo, .int hi] = .ok .non [spanD true lo hi] := by
  refine fn_is0 ?_
  have h' : ¬ hi < lo := by omega
  simp only [sat_ret_eq, sat_ok_eq, sat_ex_eq, sat_no_eq, sat_ite_eq, sat_opt_eq, sat_ck_eq, optK_some, optK_none, optK_ite, sat_peek, sat_move, sat_var, varK_leaf, varK_fz, varK_own, varK_shr, moveK_eq, sat_op1, sat_op2, sat_ix, sat_opN, op1K_eq, op2L_eq, opNK_eq, sat_nil, sat_cons, consL_eq, consR_eq, sat_lst, sat_tup, lstK_eq, tupK_eq, sat_sh, shK_eq, sat_test, testK_bl, sat_notT, notK_eq, sat_andT, sat_orT, andK_eq, orK_eq, sat_and, sat_or, sat_not, blK_bl, andDK_eq, orDK_eq, notDK_eq, sat_ifD, ifDK_eq, sat_isi, isiK_eq, sat_chain, chainL_eq, chainM_eq, chainR_eq, sat_sl, slD_eq, slL_eq, slH_eq, sat_part, partK_int, runF_toF, runB_toB, toF_ok, toF_ex, toB_ok, toB_ex, sat_callF, sat_callB, callFK_eq, callBK_eq, sat_callFD, sat_callBD, callFDK_eq, callBDK_eq, sat_seq, seqK_nx, seqK_rt, seqK_bk, seqK_ct, sat_if, ifK_eq, sat_asg, asgK_put, asgK_tup, gasK_nil, gasK_cons, sat_setIx, setL_eq, setR_int, sat_drop, sat_mret, sat_retN, sat_raise, drpK_eq, retK_eq, sat_for, forK_eq, sat_comp, compK_eq, sat_iSeq, sat_iAny, seqSK_lst, seqSK_tup, anySK_str, anySK_lst, anySK_tup, sat_iRg1, rg1K_int, sat_iRg2, rg2L_int, rg2R_int, sat_append, appK, isL, ownL?, sat_extend, extK_own, sat_m1, m1L_str, m1R_eq, sat_aug, augL_int, augR_int, sat_join, joinL_str, joinR_eq, sat_tryAs, sat_try, tryX_eq, tryAsX_eq, sat_lf, lfK_leaf, sat_methK, methK0_eq, methKL_eq, methKR_eq, methKE_eq, isLf_leaf, sat_inO, inOL_eq, inOR_eq, blO_bl, sat_isC, fIsC_ins, fIsC_non, sat_fld, fFld_eq, fldD_eq, sat_setFld, setFldK_eq, putF?_nil, putF?_cons, sat_methB, methBL_eq, methBR_eq, isC_eq, sat_callIo, callIoK_eq, sat_meth, toM_ok, toM_ex, sat_make, makeK_eq, ansK0_rt, ansK0_nx, ansX0_eq, back_ok0, back_ex0, ansK_rt, ansK_nx, ansX_eq, isR_eq, loopOk_nx, loopOk_ct, loopOk_bk, loopOk_rt, slot0, slot0n, slotS, List.mem_cons, List.not_mem_nil, String.reduceEq, List.set_cons_zero, List.set_cons_succ, List.length_cons, List.length_nil, List.length_map, List.map_cons, List.map_nil, List.cons_append, List.nil_append, List.append_nil, List.replicate_succ, List.replicate_zero, List.all_cons, List.all_nil, frzL_nil, frzL_cons, frz_leaf, frz_node, frzL_ints, frzL_st, shr_leaf, shr_node, shr_ints, hide, unhide, List.foldl_cons, List.foldl_nil, gPut_app, fLt_int, fLe_int, fGt_int, fGe_int, fAdd_int, fSub_int, fNeg_int, fAbs_int, fIntC_int, fIntC_bl, fMax2_int, fMin2_int, fMod_int, fDiv_int, fMul_l, fMul_r, pow_10_12, pow_10_15, pow_10_18, pow_10_20, pow_10_30, pow_10_60, pow_2_62, pow_2_63, pow_2_64, fLen_lst, fLen_tup, fEq_int, fNe_int, fEq_bl, fNe_bl, fListOf_ints, fEq_lit, fNe_lit, fIs_non, fIsNot_non, isNon_non, isNon_int, isNon_bl, isNon_str, isNon_node, fIx0, fIx1, fIx2, fIx3, fIx4, fIx5, fIt0, fIt1, fIt2, fIt3, fIt4, fIt5, isi_ii, isi_ib, isi_is, isi_in, isi_il, isi_it, isi_bi, isi_bb, isi_bs, isi_bn, isi_bL, isi_bt, isi_si, isi_sb, isi_ss, isi_sn, isi_sl, isi_st, isi_li, isi_lb, isi_ls, isi_ln, isi_ll, isi_lt, isi_ti, isi_tb, isi_ts, isi_tn, isi_tl, isi_tt, tyD_non, tyD_bl, tyD_int, tyD_str, tyD_lst, tyD_tup, noIns_leaf, noIns_lst, noIns_tup, bl?_bl, Option.bind_some, le_size, lt_size, Bool.not_true, Bool.not_false, Bool.false_eq_true, Bool.true_eq_false, if_true, if_false, true_and, and_true, false_and, and_false, decide_eq_true_eq, Bool.not_eq_true', decide_eq_false_iff_not, decide_true, decide_false, Bool.true_and, Bool.and_true, Bool.false_and, Bool.not_not, Option.some.injEq, and_self, true_or, or_true, false_or, or_false, not_true_eq_false, not_false_eq_true, eq_self, Int.toNat_natCast, Int.zero_add, Int.cast_ofNat_Int, Nat.zero_le, Nat.zero_lt_succ, Nat.reduceAdd, Nat.reduceSub, Nat.reduceLT, Nat.reduceLeDiff, Nat.reduceEqDiff, Int.reduceLT, Int.reduceLE, Int.reduceNeg, Int.reduceToNat, Int.reduceAdd, Int.reduceSub, Int.reduceMul, Int.reduceEq, reduceIte, h']
theorem run_new (b : Int) (h : 0 ≤ b) : m_Clock_c___init__ [.node true (.ins "Clock" []) [], .int b] = .ok .non [clk true b 0] := by
  refine fn_is0 ?_
  have h' : ¬ b < 0 := by omega
  simp only [sat_ret_eq, sat_ok_eq, sat_ex_eq, sat_no_eq, sat_ite_eq, sat_opt_eq, sat_ck_eq, optK_some, optK_none, optK_ite, sat_peek, sat_move, sat_var, varK_leaf, varK_fz, varK_own, varK_shr, moveK_eq, sat_op1, sat_op2, sat_ix, sat_opN, op1K_eq, op2L_eq, opNK_eq, sat_nil, sat_cons, consL_eq, consR_eq, sat_lst, sat_tup, lstK_eq, tupK_eq, sat_sh, shK_eq, sat_test, testK_bl, sat_notT, notK_eq, sat_andT, sat_orT, andK_eq, orK_eq, sat_and, sat_or, sat_not, blK_bl, andDK_eq, orDK_eq, notDK_eq, sat_ifD, ifDK_eq, sat_isi, isiK_eq, sat_chain, chainL_eq, chainM_eq, chainR_eq, sat_sl, slD_eq, slL_eq, slH_eq, sat_part, partK_int, runF_toF, runB_toB, toF_ok, toF_ex, toB_ok, toB_ex, sat_callF, sat_callB, callFK_eq, callBK_eq, sat_callFD, sat_callBD, callFDK_eq, callBDK_eq, sat_seq, seqK_nx, seqK_rt, seqK_bk, seqK_ct, sat_if, ifK_eq, sat_asg, asgK_put, asgK_tup, gasK_nil, gasK_cons, sat_setIx, setL_eq, setR_int, sat_drop, sat_mret, sat_retN, sat_raise, drpK_eq, retK_eq, sat_for, forK_eq, sat_comp, compK_eq, sat_iSeq, sat_iAny, seqSK_lst, seqSK_tup, anySK_str, anySK_lst, anySK_tup, sat_iRg1, rg1K_int, sat_iRg2, rg2L_int, rg2R_int, sat_append, appK, isL, ownL?, sat_extend, extK_own, sat_m1, m1L_str, m1R_eq, sat_aug, augL_int, augR_int, sat_join, joinL_str, joinR_eq, sat_tryAs, sat_try, tryX_eq, tryAsX_eq, sat_lf, lfK_leaf, sat_methK, methK0_eq, methKL_eq, methKR_eq, methKE_eq, isLf_leaf, sat_inO, inOL_eq, inOR_eq, blO_bl, sat_isC, fIsC_ins, fIsC_non, sat_fld, fFld_eq, fldD_eq, sat_setFld, setFldK_eq, putF?_nil, putF?_cons, sat_methB, methBL_eq, methBR_eq, isC_eq, sat_callIo, callIoK_eq, sat_meth, toM_ok, toM_ex, sat_make, makeK_eq, ansK0_rt, ansK0_nx, ansX0_eq, back_ok0, back_ex0, ansK_rt, ansK_nx, ansX_eq, isR_eq, loopOk_nx, loopOk_ct, loopOk_bk, loopOk_rt, slot0, slot0n, slotS, List.mem_cons, List.not_mem_nil, String.reduceEq, List.set_cons_zero, List.set_cons_succ, List.length_cons, List.length_nil, List.length_map, List.map_cons, List.map_nil, List.cons_append, List.nil_append, List.append_nil, List.replicate_succ, List.replicate_zero, List.all_cons, List.all_nil, frzL_nil, frzL_cons, frz_leaf, frz_node, frzL_ints, frzL_st, shr_leaf, shr_node, shr_ints, hide, unhide, List.foldl_cons, List.foldl_nil, gPut_app, fLt_int, fLe_int, fGt_int, fGe_int, fAdd_int, fSub_int, fNeg_int, fAbs_int, fIntC_int, fIntC_bl, fMax2_int, fMin2_int, fMod_int, fDiv_int, fMul_l, fMul_r, pow_10_12, pow_10_15, pow_10_18, pow_10_20, pow_10_30, pow_10_60, pow_2_62, pow_2_63, pow_2_64, fLen_lst, fLen_tup, fEq_int, fNe_int, fEq_bl, fNe_bl, fListOf_ints, fEq_lit, fNe_lit, fIs_non, fIsNot_non, isNon_non, isNon_int, isNon_bl, isNon_str, isNon_node, fIx0, fIx1, fIx2, fIx3, fIx4, fIx5, fIt0, fIt1, fIt2, fIt3, fIt4, fIt5, isi_ii, isi_ib, isi_is, isi_in, isi_il, isi_it, isi_bi, isi_bb, isi_bs, isi_bn, isi_bL, isi_bt, isi_si, isi_sb, isi_ss, isi_sn, isi_sl, isi_st, isi_li, isi_lb, isi_ls, isi_ln, isi_ll, isi_lt, isi_ti, isi_tb, isi_ts, isi_tn, isi_tl, isi_tt, tyD_non, tyD_bl, tyD_int, tyD_str, tyD_lst, tyD_tup, noIns_leaf, noIns_lst, noIns_tup, bl?_bl, Option.bind_some, le_size, lt_size, Bool.not_true, Bool.not_false, Bool.false_eq_true, Bool.true_eq_false, if_true, if_false, true_and, and_true, false_and, and_false, decide_eq_true_eq, Bool.not_eq_true', decide_eq_false_iff_not, decide_true, decide_false, Bool.true_and, Bool.and_true, Bool.false_and, Bool.not_not, Option.some.injEq, and_self, true_or, or_true, false_or, or_false, not_true_eq_false, not_false_eq_true, eq_self, Int.toNat_natCast, Int.zero_add, Int.cast_ofNat_Int, Nat.zero_le, Nat.zero_lt_succ, Nat.reduceAdd, Nat.reduceSub, Nat.reduceLT, Nat.reduceLeDiff, Nat.reduceEqDiff, Int.reduceLT, Int.reduceLE, Int.reduceNeg, Int.reduceToNat, Int.reduceAdd, Int.reduceSub, Int.reduceMul, Int.reduceEq, reduceIte, h']
theorem run_newx (b : Int) (h : b < 0) : m_Clock_c___init__ [.node true (.ins "Clock" []) [], .int b] = .ex "BadArgument" [.node true (.ins "Clock" []) []] := by
  refine fn_is0 ?_
  simp only [sat_ret_eq, sat_ok_eq, sat_ex_eq, sat_no_eq, sat_ite_eq, sat_opt_eq, sat_ck_eq, optK_some, optK_none, optK_ite, sat_peek, sat_move, sat_var, varK_leaf, varK_fz, varK_own, varK_shr, moveK_eq, sat_op1, sat_op2, sat_ix, sat_opN, op1K_eq, op2L_eq, opNK_eq, sat_nil, sat_cons, consL_eq, consR_eq, sat_lst, sat_tup, lstK_eq, tupK_eq, sat_sh, shK_eq, sat_test, testK_bl, sat_notT, notK_eq, sat_andT, sat_orT, andK_eq, orK_eq, sat_and, sat_or, sat_not, blK_bl, andDK_eq, orDK_eq, notDK_eq, sat_ifD, ifDK_eq, sat_isi, isiK_eq, sat_chain, chainL_eq, chainM_eq, chainR_eq, sat_sl, slD_eq, slL_eq, slH_eq, sat_part, partK_int, runF_toF, runB_toB, toF_ok, toF_ex, toB_ok, toB_ex, sat_callF, sat_callB, callFK_eq, callBK_eq, sat_callFD, sat_callBD, callFDK_eq, callBDK_eq, sat_seq, seqK_nx, seqK_rt, seqK_bk, seqK_ct, sat_if, ifK_eq, sat_asg, asgK_put, asgK_tup, gasK_nil, gasK_cons, sat_setIx, setL_eq, setR_int, sat_drop, sat_mret, sat_retN, sat_raise, drpK_eq, retK_eq, sat_for, forK_eq, sat_comp, compK_eq, sat_iSeq, sat_iAny, seqSK_lst, seqSK_tup, anySK_str, anySK_lst, anySK_tup, sat_iRg1, rg1K_int, sat_iRg2, rg2L_int, rg2R_int, sat_append, appK, isL, ownL?, sat_extend, extK_own, sat_m1, m1L_str, m1R_eq, sat_aug, augL_int, augR_int, sat_join, joinL_str, joinR_eq, sat_tryAs, sat_try, tryX_eq, tryAsX_eq, sat_lf, lfK_leaf, sat_methK, methK0_eq, methKL_eq, methKR_eq, methKE_eq, isLf_leaf, sat_inO, inOL_eq, inOR_eq, blO_bl, sat_isC, fIsC_ins, fIsC_non, sat_fld, fFld_eq, fldD_eq, sat_setFld, setFldK_eq, putF?_nil, putF?_cons, sat_methB, methBL_eq, methBR_eq, isC_eq, sat_callIo, callIoK_eq, sat_meth, toM_ok, toM_ex, sat_make, makeK_eq, ansK0_rt, ansK0_nx, ansX0_eq, back_ok0, back_ex0, ansK_rt, ansK_nx, ansX_eq, isR_eq, loopOk_nx, loopOk_ct, loopOk_bk, loopOk_rt, slot0, slot0n, slotS, List.mem_cons, List.not_mem_nil, String.reduceEq, List.set_cons_zero, List.set_cons_succ, List.length_cons, List.length_nil, List.length_map, List.map_cons, List.map_nil, List.cons_append, List.nil_append, List.append_nil, List.replicate_succ, List.replicate_zero, List.all_cons, List.all_nil, frzL_nil, frzL_cons, frz_leaf, frz_node, frzL_ints, frzL_st, shr_leaf, shr_node, shr_ints, hide, unhide, List.foldl_cons, List.foldl_nil, gPut_app, fLt_int, fLe_int, fGt_int, fGe_int, fAdd_int, fSub_int, fNeg_int, fAbs_int, fIntC_int, fIntC_bl, fMax2_int, fMin2_int, fMod_int, fDiv_int, fMul_l, fMul_r, pow_10_12, pow_10_15, pow_10_18, pow_10_20, pow_10_30, pow_10_60, pow_2_62, pow_2_63, pow_2_64, fLen_lst, fLen_tup, fEq_int, fNe_int, fEq_bl, fNe_bl, fListOf_ints, fEq_lit, fNe_lit, fIs_non, fIsNot_non, isNon_non, isNon_int, isNon_bl, isNon_str, isNon_node, fIx0, fIx1, fIx2, fIx3, fIx4, fIx5, fIt0, fIt1, fIt2, fIt3, fIt4, fIt5, isi_ii, isi_ib, isi_is, isi_in, isi_il, isi_it, isi_bi, isi_bb, isi_bs, isi_bn, isi_bL, isi_bt, isi_si, isi_sb, isi_ss, isi_sn, isi_sl, isi_st, isi_li, isi_lb, isi_ls, isi_ln, isi_ll, isi_lt, isi_ti, isi_tb, isi_ts, isi_tn, isi_tl, isi_tt, tyD_non, tyD_bl, tyD_int, tyD_str, tyD_lst, tyD_tup, noIns_leaf, noIns_lst, noIns_tup, bl?_bl, Option.bind_some, le_size, lt_size, Bool.not_true, Bool.not_false, Bool.false_eq_true, Bool.true_eq_false, if_true, if_false, true_and, and_true, false_and, and_false, decide_eq_true_eq, Bool.not_eq_true', decide_eq_false_iff_not, decide_true, decide_false, Bool.true_and, Bool.and_true, Bool.false_and, Bool.not_not, Option.some.injEq, and_self, true_or, or_true, false_or, or_false, not_true_eq_false, not_false_eq_true, eq_self, Int.toNat_natCast, Int.zero_add, Int.cast_ofNat_Int, Nat.zero_le, Nat.zero_lt_succ, Nat.reduceAdd, Nat.reduceSub, Nat.reduceLT, Nat.reduceLeDiff, Nat.reduceEqDiff, Int.reduceLT, Int.reduceLE, Int.reduceNeg, Int.reduceToNat, Int.reduceAdd, Int.reduceSub, Int.reduceMul, Int.reduceEq, reduceIte, h]
theorem run_drift (b f g : Int) (h : -b ≤ g) (h2 : g ≤ b) : m_Clock_c_drift [clk true b f, .int g] = .ok .non [clk true b g] := by
  refine fn_is0 ?_
  simp only [sat_ret_eq, sat_ok_eq, sat_ex_eq, sat_no_eq, sat_ite_eq, sat_opt_eq, sat_ck_eq, optK_some, optK_none, optK_ite, sat_peek, sat_move, sat_var, varK_leaf, varK_fz, varK_own, varK_shr, moveK_eq, sat_op1, sat_op2, sat_ix, sat_opN, op1K_eq, op2L_eq, opNK_eq, sat_nil, sat_cons, consL_eq, consR_eq, sat_lst, sat_tup, lstK_eq, tupK_eq, sat_sh, shK_eq, sat_test, testK_bl, sat_notT, notK_eq, sat_andT, sat_orT, andK_eq, orK_eq, sat_and, sat_or, sat_not, blK_bl, andDK_eq, orDK_eq, notDK_eq, sat_ifD, ifDK_eq, sat_isi, isiK_eq, sat_chain, chainL_eq, chainM_eq, chainR_eq, sat_sl, slD_eq, slL_eq, slH_eq, sat_part, partK_int, runF_toF, runB_toB, toF_ok, toF_ex, toB_ok, toB_ex, sat_callF, sat_callB, callFK_eq, callBK_eq, sat_callFD, sat_callBD, callFDK_eq, callBDK_eq, sat_seq, seqK_nx, seqK_rt, seqK_bk, seqK_ct, sat_if, ifK_eq, sat_asg, asgK_put, asgK_tup, gasK_nil, gasK_cons, sat_setIx, setL_eq, setR_int, sat_drop, sat_mret, sat_retN, sat_raise, drpK_eq, retK_eq, sat_for, forK_eq, sat_comp, compK_eq, sat_iSeq, sat_iAny, seqSK_lst, seqSK_tup, anySK_str, anySK_lst, anySK_tup, sat_iRg1, rg1K_int, sat_iRg2, rg2L_int, rg2R_int, sat_append, appK, isL, ownL?, sat_extend, extK_own, sat_m1, m1L_str, m1R_eq, sat_aug, augL_int, augR_int, sat_join, joinL_str, joinR_eq, sat_tryAs, sat_try, tryX_eq, tryAsX_eq, sat_lf, lfK_leaf, sat_methK, methK0_eq, methKL_eq, methKR_eq, methKE_eq, isLf_leaf, sat_inO, inOL_eq, inOR_eq, blO_bl, sat_isC, fIsC_ins, fIsC_non, sat_fld, fFld_eq, fldD_eq, sat_setFld, setFldK_eq, putF?_nil, putF?_cons, sat_methB, methBL_eq, methBR_eq, isC_eq, sat_callIo, callIoK_eq, sat_meth, toM_ok, toM_ex, sat_make, makeK_eq, ansK0_rt, ansK0_nx, ansX0_eq, back_ok0, back_ex0, ansK_rt, ansK_nx, ansX_eq, isR_eq, loopOk_nx, loopOk_ct, loopOk_bk, loopOk_rt, slot0, slot0n, slotS, List.mem_cons, List.not_mem_nil, String.reduceEq, List.set_cons_zero, List.set_cons_succ, List.length_cons, List.length_nil, List.length_map, List.map_cons, List.map_nil, List.cons_append, List.nil_append, List.append_nil, List.replicate_succ, List.replicate_zero, List.all_cons, List.all_nil, frzL_nil, frzL_cons, frz_leaf, frz_node, frzL_ints, frzL_st, shr_leaf, shr_node, shr_ints, hide, unhide, List.foldl_cons, List.foldl_nil, gPut_app, fLt_int, fLe_int, fGt_int, fGe_int, fAdd_int, fSub_int, fNeg_int, fAbs_int, fIntC_int, fIntC_bl, fMax2_int, fMin2_int, fMod_int, fDiv_int, fMul_l, fMul_r, pow_10_12, pow_10_15, pow_10_18, pow_10_20, pow_10_30, pow_10_60, pow_2_62, pow_2_63, pow_2_64, fLen_lst, fLen_tup, fEq_int, fNe_int, fEq_bl, fNe_bl, fListOf_ints, fEq_lit, fNe_lit, fIs_non, fIsNot_non, isNon_non, isNon_int, isNon_bl, isNon_str, isNon_node, fIx0, fIx1, fIx2, fIx3, fIx4, fIx5, fIt0, fIt1, fIt2, fIt3, fIt4, fIt5, isi_ii, isi_ib, isi_is, isi_in, isi_il, isi_it, isi_bi, isi_bb, isi_bs, isi_bn, isi_bL, isi_bt, isi_si, isi_sb, isi_ss, isi_sn, isi_sl, isi_st, isi_li, isi_lb, isi_ls, isi_ln, isi_ll, isi_lt, isi_ti, isi_tb, isi_ts, isi_tn, isi_tl, isi_tt, tyD_non, tyD_bl, tyD_int, tyD_str, tyD_lst, tyD_tup, noIns_leaf, noIns_lst, noIns_tup, bl?_bl, Option.bind_some, le_size, lt_size, Bool.not_true, Bool.not_false, Bool.false_eq_true, Bool.true_eq_false, if_true, if_false, true_and, and_true, false_and, and_false, decide_eq_true_eq, Bool.not_eq_true', decide_eq_false_iff_not, decide_true, decide_false, Bool.true_and, Bool.and_true, Bool.false_and, Bool.not_not, Option.some.injEq, and_self, true_or, or_true, false_or, or_false, not_true_eq_false, not_false_eq_true, eq_self, Int.toNat_natCast, Int.zero_add, Int.cast_ofNat_Int, Nat.zero_le, Nat.zero_lt_succ, Nat.reduceAdd, Nat.reduceSub, Nat.reduceLT, Nat.reduceLeDiff, Nat.reduceEqDiff, Int.reduceLT, Int.reduceLE, Int.reduceNeg, Int.reduceToNat, Int.reduceAdd, Int.reduceSub, Int.reduceMul, Int.reduceEq, reduceIte, h, h2]
theorem run_driftx (o : Bool) (b f g : Int) (h : ¬ (-b ≤ g ∧ g ≤ b)) : m_Clock_c_drift [clk o b f, .int g] = .ex "BadArgument" [clk o b f] := by
  refine fn_is0 ?_
  by_cases h1 : -b ≤ g
  · have h2 : ¬ g ≤ b := fun z => h ⟨h1, z⟩
    simp only [sat_ret_eq, sat_ok_eq, sat_ex_eq, sat_no_eq, sat_ite_eq, sat_opt_eq, sat_ck_eq, optK_some, optK_none, optK_ite, sat_peek, sat_move, sat_var, varK_leaf, varK_fz, varK_own, varK_shr, moveK_eq, sat_op1, sat_op2, sat_ix, sat_opN, op1K_eq, op2L_eq, opNK_eq, sat_nil, sat_cons, consL_eq, consR_eq, sat_lst, sat_tup, lstK_eq, tupK_eq, sat_sh, shK_eq, sat_test, testK_bl, sat_notT, notK_eq, sat_andT, sat_orT, andK_eq, orK_eq, sat_and, sat_or, sat_not, blK_bl, andDK_eq, orDK_eq, notDK_eq, sat_ifD, ifDK_eq, sat_isi, isiK_eq, sat_chain, chainL_eq, chainM_eq, chainR_eq, sat_sl, slD_eq, slL_eq, slH_eq, sat_part, partK_int, runF_toF, runB_toB, toF_ok, toF_ex, toB_ok, toB_ex, sat_callF, sat_callB, callFK_eq, callBK_eq, sat_callFD, sat_callBD, callFDK_eq, callBDK_eq, sat_seq, seqK_nx, seqK_rt, seqK_bk, seqK_ct, sat_if, ifK_eq, sat_asg, asgK_put, asgK_tup, gasK_nil, gasK_cons, sat_setIx, setL_eq, setR_int, sat_drop, sat_mret, sat_retN, sat_raise, drpK_eq, retK_eq, sat_for, forK_eq, sat_comp, compK_eq, sat_iSeq, sat_iAny, seqSK_lst, seqSK_tup, anySK_str, anySK_lst, anySK_tup, sat_iRg1, rg1K_int, sat_iRg2, rg2L_int, rg2R_int, sat_append, appK, isL, ownL?, sat_extend, extK_own, sat_m1, m1L_str, m1R_eq, sat_aug, augL_int, augR_int, sat_join, joinL_str, joinR_eq, sat_tryAs, sat_try, tryX_eq, tryAsX_eq, sat_lf, lfK_leaf, sat_methK, methK0_eq, methKL_eq, methKR_eq, methKE_eq, isLf_leaf, sat_inO, inOL_eq, inOR_eq, blO_bl, sat_isC, fIsC_ins, fIsC_non, sat_fld, fFld_eq, fldD_eq, sat_setFld, setFldK_eq, putF?_nil, putF?_cons, sat_methB, methBL_eq, methBR_eq, isC_eq, sat_callIo, callIoK_eq, sat_meth, toM_ok, toM_ex, sat_make, makeK_eq, ansK0_rt, ansK0_nx, ansX0_eq, back_ok0, back_ex0, ansK_rt, ansK_nx, ansX_eq, isR_eq, loopOk_nx, loopOk_ct, loopOk_bk, loopOk_rt, slot0, slot0n, slotS, List.mem_cons, List.not_mem_nil, String.reduceEq, List.set_cons_zero, List.set_cons_succ, List.length_cons, List.length_nil, List.length_map, List.map_cons, List.map_nil, List.cons_append, List.nil_append, List.append_nil, List.replicate_succ, List.replicate_zero, List.all_cons, List.all_nil, frzL_nil, frzL_cons, frz_leaf, frz_node, frzL_ints, frzL_st, shr_leaf, shr_node, shr_ints, hide, unhide, List.foldl_cons, List.foldl_nil, gPut_app, fLt_int, fLe_int, fGt_int, fGe_int, fAdd_int, fSub_int, fNeg_int, fAbs_int, fIntC_int, fIntC_bl, fMax2_int, fMin2_int, fMod_int, fDiv_int, fMul_l, fMul_r, pow_10_12, pow_10_15, pow_10_18, pow_10_20, pow_10_30, pow_10_60, pow_2_62, pow_2_63, pow_2_64, fLen_lst, fLen_tup, fEq_int, fNe_int, fEq_bl, fNe_bl, fListOf_ints, fEq_lit, fNe_lit, fIs_non, fIsNot_non, isNon_non, isNon_int, isNon_bl, isNon_str, isNon_node, fIx0, fIx1, fIx2, fIx3, fIx4, fIx5, fIt0, fIt1, fIt2, fIt3, fIt4, fIt5, isi_ii, isi_ib, isi_is, isi_in, isi_il, isi_it, isi_bi, isi_bb, isi_bs, isi_bn, isi_bL, isi_bt, isi_si, isi_sb, isi_ss, isi_sn, isi_sl, isi_st, isi_li, isi_lb, isi_ls, isi_ln, isi_ll, isi_lt, isi_ti, isi_tb, isi_ts, isi_tn, isi_tl, isi_tt, tyD_non, tyD_bl, tyD_int, tyD_str, tyD_lst, tyD_tup, noIns_leaf, noIns_lst, noIns_tup, bl?_bl, Option.bind_some, le_size, lt_size, Bool.not_true, Bool.not_false, Bool.false_eq_true, Bool.true_eq_false, if_true, if_false, true_and, and_true, false_and, and_false, decide_eq_true_eq, Bool.not_eq_true', decide_eq_false_iff_not, decide_true, decide_false, Bool.true_and, Bool.and_true, Bool.false_and, Bool.not_not, Option.some.injEq, and_self, true_or, or_true, false_or, or_false, not_true_eq_false, not_false_eq_true, eq_self, Int.toNat_natCast, Int.zero_add, Int.cast_ofNat_Int, Nat.zero_le, Nat.zero_lt_succ, Nat.reduceAdd, Nat.reduceSub, Nat.reduceLT, Nat.reduceLeDiff, Nat.reduceEqDiff, Int.reduceLT, Int.reduceLE, Int.reduceNeg, Int.reduceToNat, Int.reduceAdd, Int.reduceSub, Int.reduceMul, Int.reduceEq, reduceIte, h1, h2]
  · simp only [sat_ret_eq, sat_ok_eq, sat_ex_eq, sat_no_eq, sat_ite_eq, sat_opt_eq, sat_ck_eq, optK_some, optK_none, optK_ite, sat_peek, sat_move, sat_var, varK_leaf, varK_fz, varK_own, varK_shr, moveK_eq, sat_op1, sat_op2, sat_ix, sat_opN, op1K_eq, op2L_eq, opNK_eq, sat_nil, sat_cons, consL_eq, consR_eq, sat_lst, sat_tup, lstK_eq, tupK_eq, sat_sh, shK_eq, sat_test, testK_bl, sat_notT, notK_eq, sat_andT, sat_orT, andK_eq, orK_eq, sat_and, sat_or, sat_not, blK_bl, andDK_eq, orDK_eq, notDK_eq, sat_ifD, ifDK_eq, sat_isi, isiK_eq, sat_chain, chainL_eq, chainM_eq, chainR_eq, sat_sl, slD_eq, slL_eq, slH_eq, sat_part, partK_int, runF_toF, runB_toB, toF_ok, toF_ex, toB_ok, toB_ex, sat_callF, sat_callB, callFK_eq, callBK_eq, sat_callFD, sat_callBD, callFDK_eq, callBDK_eq, sat_seq, seqK_nx, seqK_rt, seqK_bk, seqK_ct, sat_if, ifK_eq, sat_asg, asgK_put, asgK_tup, gasK_nil, gasK_cons, sat_setIx, setL_eq, setR_int, sat_drop, sat_mret, sat_retN, sat_raise, drpK_eq, retK_eq, sat_for, forK_eq, sat_comp, compK_eq, sat_iSeq, sat_iAny, seqSK_lst, seqSK_tup, anySK_str, anySK_lst, anySK_tup, sat_iRg1, rg1K_int, sat_iRg2, rg2L_int, rg2R_int, sat_append, appK, isL, ownL?, sat_extend, extK_own, sat_m1, m1L_str, m1R_eq, sat_aug, augL_int, augR_int, sat_join, joinL_str, joinR_eq, sat_tryAs, sat_try, tryX_eq, tryAsX_eq, sat_lf, lfK_leaf, sat_methK, methK0_eq, methKL_eq, methKR_eq, methKE_eq, isLf_leaf, sat_inO, inOL_eq, inOR_eq, blO_bl, sat_isC, fIsC_ins, fIsC_non, sat_fld, fFld_eq, fldD_eq, sat_setFld, setFldK_eq, putF?_nil, putF?_cons, sat_methB, methBL_eq, methBR_eq, isC_eq, sat_callIo, callIoK_eq, sat_meth, toM_ok, toM_ex, sat_make, makeK_eq, ansK0_rt, ansK0_nx, ansX0_eq, back_ok0, back_ex0, ansK_rt, ansK_nx, ansX_eq, isR_eq, loopOk_nx, loopOk_ct, loopOk_bk, loopOk_rt, slot0, slot0n, slotS, List.mem_cons, List.not_mem_nil, String.reduceEq, List.set_cons_zero, List.set_cons_succ, List.length_cons, List.length_nil, List.length_map, List.map_cons, List.map_nil, List.cons_append, List.nil_append, List.append_nil, List.replicate_succ, List.replicate_zero, List.all_cons, List.all_nil, frzL_nil, frzL_cons, frz_leaf, frz_node, frzL_ints, frzL_st, shr_leaf, shr_node, shr_ints, hide, unhide, List.foldl_cons, List.foldl_nil, gPut_app, fLt_int, fLe_int, fGt_int, fGe_int, fAdd_int, fSub_int, fNeg_int, fAbs_int, fIntC_int, fIntC_bl, fMax2_int, fMin2_int, fMod_int, fDiv_int, fMul_l, fMul_r, pow_10_12, pow_10_15, pow_10_18, pow_10_20, pow_10_30, pow_10_60, pow_2_62, pow_2_63, pow_2_64, fLen_lst, fLen_tup, fEq_int, fNe_int, fEq_bl, fNe_bl, fListOf_ints, fEq_lit, fNe_lit, fIs_non, fIsNot_non, isNon_non, isNon_int, isNon_bl, isNon_str, isNon_node, fIx0, fIx1, fIx2, fIx3, fIx4, fIx5, fIt0, fIt1, fIt2, fIt3, fIt4, fIt5, isi_ii, isi_ib, isi_is, isi_in, isi_il, isi_it, isi_bi, isi_bb, isi_bs, isi_bn, isi_bL, isi_bt, isi_si, isi_sb, isi_ss, isi_sn, isi_sl, isi_st, isi_li, isi_lb, isi_ls, isi_ln, isi_ll, isi_lt, isi_ti, isi_tb, isi_ts, isi_tn, isi_tl, isi_tt, tyD_non, tyD_bl, tyD_int, tyD_str, tyD_lst, tyD_tup, noIns_leaf, noIns_lst, noIns_tup, bl?_bl, Option.bind_some, le_size, lt_size, Bool.not_true, Bool.not_false, Bool.false_eq_true, Bool.true_eq_false, if_true, if_false, true_and, and_true, false_and, and_false, decide_eq_true_eq, Bool.not_eq_true', decide_eq_false_iff_not, decide_true, decide_false, Bool.true_and, Bool.and_true, Bool.false_and, Bool.not_not, Option.some.injEq, and_self, true_or, or_true, false_or, or_false, not_true_eq_false, not_false_eq_true, eq_self, Int.toNat_natCast, Int.zero_add, Int.cast_ofNat_Int, Nat.zero_le, Nat.zero_lt_succ, Nat.reduceAdd, Nat.reduceSub, Nat.reduceLT, Nat.reduceLeDiff, Nat.reduceEqDiff, Int.reduceLT, Int.reduceLE, Int.reduceNeg, Int.reduceToNat, Int.reduceAdd, Int.reduceSub, Int.reduceMul, Int.reduceEq, reduceIte, h1]
theorem run_sp (o : Bool) (b f n : Int) (hb : 0 ≤ b) (h : 0 ≤ n) : m_Clock_c_span [clk o b f, .int n] = .ok (spanD true (n + f - b) (n + f + b)) [clk o b f] := by
  refine fn_is0 ?_
  have h' : ¬ n < 0 := by omega
  have e := run_span0 (n + f - b) (n + f + b) (by omega)
  simp only [sat_ret_eq, sat_ok_eq, sat_ex_eq, sat_no_eq, sat_ite_eq, sat_opt_eq, sat_ck_eq, optK_some, optK_none, optK_ite, sat_peek, sat_move, sat_var, varK_leaf, varK_fz, varK_own, varK_shr, moveK_eq, sat_op1, sat_op2, sat_ix, sat_opN, op1K_eq, op2L_eq, opNK_eq, sat_nil, sat_cons, consL_eq, consR_eq, sat_lst, sat_tup, lstK_eq, tupK_eq, sat_sh, shK_eq, sat_test, testK_bl, sat_notT, notK_eq, sat_andT, sat_orT, andK_eq, orK_eq, sat_and, sat_or, sat_not, blK_bl, andDK_eq, orDK_eq, notDK_eq, sat_ifD, ifDK_eq, sat_isi, isiK_eq, sat_chain, chainL_eq, chainM_eq, chainR_eq, sat_sl, slD_eq, slL_eq, slH_eq, sat_part, partK_int, runF_toF, runB_toB, toF_ok, toF_ex, toB_ok, toB_ex, sat_callF, sat_callB, callFK_eq, callBK_eq, sat_callFD, sat_callBD, callFDK_eq, callBDK_eq, sat_seq, seqK_nx, seqK_rt, seqK_bk, seqK_ct, sat_if, ifK_eq, sat_asg, asgK_put, asgK_tup, gasK_nil, gasK_cons, sat_setIx, setL_eq, setR_int, sat_drop, sat_mret, sat_retN, sat_raise, drpK_eq, retK_eq, sat_for, forK_eq, sat_comp, compK_eq, sat_iSeq, sat_iAny, seqSK_lst, seqSK_tup, anySK_str, anySK_lst, anySK_tup, sat_iRg1, rg1K_int, sat_iRg2, rg2L_int, rg2R_int, sat_append, appK, isL, ownL?, sat_extend, extK_own, sat_m1, m1L_str, m1R_eq, sat_aug, augL_int, augR_int, sat_join, joinL_str, joinR_eq, sat_tryAs, sat_try, tryX_eq, tryAsX_eq, sat_lf, lfK_leaf, sat_methK, methK0_eq, methKL_eq, methKR_eq, methKE_eq, isLf_leaf, sat_inO, inOL_eq, inOR_eq, blO_bl, sat_isC, fIsC_ins, fIsC_non, sat_fld, fFld_eq, fldD_eq, sat_setFld, setFldK_eq, putF?_nil, putF?_cons, sat_methB, methBL_eq, methBR_eq, isC_eq, sat_callIo, callIoK_eq, sat_meth, toM_ok, toM_ex, sat_make, makeK_eq, ansK0_rt, ansK0_nx, ansX0_eq, back_ok0, back_ex0, ansK_rt, ansK_nx, ansX_eq, isR_eq, loopOk_nx, loopOk_ct, loopOk_bk, loopOk_rt, slot0, slot0n, slotS, List.mem_cons, List.not_mem_nil, String.reduceEq, List.set_cons_zero, List.set_cons_succ, List.length_cons, List.length_nil, List.length_map, List.map_cons, List.map_nil, List.cons_append, List.nil_append, List.append_nil, List.replicate_succ, List.replicate_zero, List.all_cons, List.all_nil, frzL_nil, frzL_cons, frz_leaf, frz_node, frzL_ints, frzL_st, shr_leaf, shr_node, shr_ints, hide, unhide, List.foldl_cons, List.foldl_nil, gPut_app, fLt_int, fLe_int, fGt_int, fGe_int, fAdd_int, fSub_int, fNeg_int, fAbs_int, fIntC_int, fIntC_bl, fMax2_int, fMin2_int, fMod_int, fDiv_int, fMul_l, fMul_r, pow_10_12, pow_10_15, pow_10_18, pow_10_20, pow_10_30, pow_10_60, pow_2_62, pow_2_63, pow_2_64, fLen_lst, fLen_tup, fEq_int, fNe_int, fEq_bl, fNe_bl, fListOf_ints, fEq_lit, fNe_lit, fIs_non, fIsNot_non, isNon_non, isNon_int, isNon_bl, isNon_str, isNon_node, fIx0, fIx1, fIx2, fIx3, fIx4, fIx5, fIt0, fIt1, fIt2, fIt3, fIt4, fIt5, isi_ii, isi_ib, isi_is, isi_in, isi_il, isi_it, isi_bi, isi_bb, isi_bs, isi_bn, isi_bL, isi_bt, isi_si, isi_sb, isi_ss, isi_sn, isi_sl, isi_st, isi_li, isi_lb, isi_ls, isi_ln, isi_ll, isi_lt, isi_ti, isi_tb, isi_ts, isi_tn, isi_tl, isi_tt, tyD_non, tyD_bl, tyD_int, tyD_str, tyD_lst, tyD_tup, noIns_leaf, noIns_lst, noIns_tup, bl?_bl, Option.bind_some, le_size, lt_size, Bool.not_true, Bool.not_false, Bool.false_eq_true, Bool.true_eq_false, if_true, if_false, true_and, and_true, false_and, and_false, decide_eq_true_eq, Bool.not_eq_true', decide_eq_false_iff_not, decide_true, decide_false, Bool.true_and, Bool.and_true, Bool.false_and, Bool.not_not, Option.some.injEq, and_self, true_or, or_true, false_or, or_false, not_true_eq_false, not_false_eq_true, eq_self, Int.toNat_natCast, Int.zero_add, Int.cast_ofNat_Int, Nat.zero_le, Nat.zero_lt_succ, Nat.reduceAdd, Nat.reduceSub, Nat.reduceLT, Nat.reduceLeDiff, Nat.reduceEqDiff, Int.reduceLT, Int.reduceLE, Int.reduceNeg, Int.reduceToNat, Int.reduceAdd, Int.reduceSub, Int.reduceMul, Int.reduceEq, reduceIte, h', e]
theorem run_spx (o : Bool) (b f n : Int) (h : n < 0) : m_Clock_c_span [clk o b f, .int n] = .ex "BadArgument" [clk o b f] := by
  refine fn_is0 ?_
  simp only [sat_ret_eq, sat_ok_eq, sat_ex_eq, sat_no_eq, sat_ite_eq, sat_opt_eq, sat_ck_eq, optK_some, optK_none, optK_ite, sat_peek, sat_move, sat_var, varK_leaf, varK_fz, varK_own, varK_shr, moveK_eq, sat_op1, sat_op2, sat_ix, sat_opN, op1K_eq, op2L_eq, opNK_eq, sat_nil, sat_cons, consL_eq, consR_eq, sat_lst, sat_tup, lstK_eq, tupK_eq, sat_sh, shK_eq, sat_test, testK_bl, sat_notT, notK_eq, sat_andT, sat_orT, andK_eq, orK_eq, sat_and, sat_or, sat_not, blK_bl, andDK_eq, orDK_eq, notDK_eq, sat_ifD, ifDK_eq, sat_isi, isiK_eq, sat_chain, chainL_eq, chainM_eq, chainR_eq, sat_sl, slD_eq, slL_eq, slH_eq, sat_part, partK_int, runF_toF, runB_toB, toF_ok, toF_ex, toB_ok, toB_ex, sat_callF, sat_callB, callFK_eq, callBK_eq, sat_callFD, sat_callBD, callFDK_eq, callBDK_eq, sat_seq, seqK_nx, seqK_rt, seqK_bk, seqK_ct, sat_if, ifK_eq, sat_asg, asgK_put, asgK_tup, gasK_nil, gasK_cons, sat_setIx, setL_eq, setR_int, sat_drop, sat_mret, sat_retN, sat_raise, drpK_eq, retK_eq, sat_for, forK_eq, sat_comp, compK_eq, sat_iSeq, sat_iAny, seqSK_lst, seqSK_tup, anySK_str, anySK_lst, anySK_tup, sat_iRg1, rg1K_int, sat_iRg2, rg2L_int, rg2R_int, sat_append, appK, isL, ownL?, sat_extend, extK_own, sat_m1, m1L_str, m1R_eq, sat_aug, augL_int, augR_int, sat_join, joinL_str, joinR_eq, sat_tryAs, sat_try, tryX_eq, tryAsX_eq, sat_lf, lfK_leaf, sat_methK, methK0_eq, methKL_eq, methKR_eq, methKE_eq, isLf_leaf, sat_inO, inOL_eq, inOR_eq, blO_bl, sat_isC, fIsC_ins, fIsC_non, sat_fld, fFld_eq, fldD_eq, sat_setFld, setFldK_eq, putF?_nil, putF?_cons, sat_methB, methBL_eq, methBR_eq, isC_eq, sat_callIo, callIoK_eq, sat_meth, toM_ok, toM_ex, sat_make, makeK_eq, ansK0_rt, ansK0_nx, ansX0_eq, back_ok0, back_ex0, ansK_rt, ansK_nx, ansX_eq, isR_eq, loopOk_nx, loopOk_ct, loopOk_bk, loopOk_rt, slot0, slot0n, slotS, List.mem_cons, List.not_mem_nil, String.reduceEq, List.set_cons_zero, List.set_cons_succ, List.length_cons, List.length_nil, List.length_map, List.map_cons, List.map_nil, List.cons_append, List.nil_append, List.append_nil, List.replicate_succ, List.replicate_zero, List.all_cons, List.all_nil, frzL_nil, frzL_cons, frz_leaf, frz_node, frzL_ints, frzL_st, shr_leaf, shr_node, shr_ints, hide, unhide, List.foldl_cons, List.foldl_nil, gPut_app, fLt_int, fLe_int, fGt_int, fGe_int, fAdd_int, fSub_int, fNeg_int, fAbs_int, fIntC_int, fIntC_bl, fMax2_int, fMin2_int, fMod_int, fDiv_int, fMul_l, fMul_r, pow_10_12, pow_10_15, pow_10_18, pow_10_20, pow_10_30, pow_10_60, pow_2_62, pow_2_63, pow_2_64, fLen_lst, fLen_tup, fEq_int, fNe_int, fEq_bl, fNe_bl, fListOf_ints, fEq_lit, fNe_lit, fIs_non, fIsNot_non, isNon_non, isNon_int, isNon_bl, isNon_str, isNon_node, fIx0, fIx1, fIx2, fIx3, fIx4, fIx5, fIt0, fIt1, fIt2, fIt3, fIt4, fIt5, isi_ii, isi_ib, isi_is, isi_in, isi_il, isi_it, isi_bi, isi_bb, isi_bs, isi_bn, isi_bL, isi_bt, isi_si, isi_sb, isi_ss, isi_sn, isi_sl, isi_st, isi_li, isi_lb, isi_ls, isi_ln, isi_ll, isi_lt, isi_ti, isi_tb, isi_ts, isi_tn, isi_tl, isi_tt, tyD_non, tyD_bl, tyD_int, tyD_str, tyD_lst, tyD_tup, noIns_leaf, noIns_lst, noIns_tup, bl?_bl, Option.bind_some, le_size, lt_size, Bool.not_true, Bool.not_false, Bool.false_eq_true, Bool.true_eq_false, if_true, if_false, true_and, and_true, false_and, and_false, decide_eq_true_eq, Bool.not_eq_true', decide_eq_false_iff_not, decide_true, decide_false, Bool.true_and, Bool.and_true, Bool.false_and, Bool.not_not, Option.some.injEq, and_self, true_or, or_true, false_or, or_false, not_true_eq_false, not_false_eq_true, eq_self, Int.toNat_natCast, Int.zero_add, Int.cast_ofNat_Int, Nat.zero_le, Nat.zero_lt_succ, Nat.reduceAdd, Nat.reduceSub, Nat.reduceLT, Nat.reduceLeDiff, Nat.reduceEqDiff, Int.reduceLT, Int.reduceLE, Int.reduceNeg, Int.reduceToNat, Int.reduceAdd, Int.reduceSub, Int.reduceMul, Int.reduceEq, reduceIte, h]
theorem run_wait (o : Bool) (b f t n : Int) (hb : 0 ≤ b) (h : 0 ≤ n) : m_Clock_c_wait_for [clk o b f, .int t, .int n] = .ok (.int (if t - (n + f - b) + 1 > 0 then t - (n + f - b) + 1 else 0)) [clk o b f] := by
  refine fn_is0 ?_
  have e := run_sp o b f n hb h
  simp only [sat_ret_eq, sat_ok_eq, sat_ex_eq, sat_no_eq, sat_ite_eq, sat_opt_eq, sat_ck_eq, optK_some, optK_none, optK_ite, sat_peek, sat_move, sat_var, varK_leaf, varK_fz, varK_own, varK_shr, moveK_eq, sat_op1, sat_op2, sat_ix, sat_opN, op1K_eq, op2L_eq, opNK_eq, sat_nil, sat_cons, consL_eq, consR_eq, sat_lst, sat_tup, lstK_eq, tupK_eq, sat_sh, shK_eq, sat_test, testK_bl, sat_notT, notK_eq, sat_andT, sat_orT, andK_eq, orK_eq, sat_and, sat_or, sat_not, blK_bl, andDK_eq, orDK_eq, notDK_eq, sat_ifD, ifDK_eq, sat_isi, isiK_eq, sat_chain, chainL_eq, chainM_eq, chainR_eq, sat_sl, slD_eq, slL_eq, slH_eq, sat_part, partK_int, runF_toF, runB_toB, toF_ok, toF_ex, toB_ok, toB_ex, sat_callF, sat_callB, callFK_eq, callBK_eq, sat_callFD, sat_callBD, callFDK_eq, callBDK_eq, sat_seq, seqK_nx, seqK_rt, seqK_bk, seqK_ct, sat_if, ifK_eq, sat_asg, asgK_put, asgK_tup, gasK_nil, gasK_cons, sat_setIx, setL_eq, setR_int, sat_drop, sat_mret, sat_retN, sat_raise, drpK_eq, retK_eq, sat_for, forK_eq, sat_comp, compK_eq, sat_iSeq, sat_iAny, seqSK_lst, seqSK_tup, anySK_str, anySK_lst, anySK_tup, sat_iRg1, rg1K_int, sat_iRg2, rg2L_int, rg2R_int, sat_append, appK, isL, ownL?, sat_extend, extK_own, sat_m1, m1L_str, m1R_eq, sat_aug, augL_int, augR_int, sat_join, joinL_str, joinR_eq, sat_tryAs, sat_try, tryX_eq, tryAsX_eq, sat_lf, lfK_leaf, sat_methK, methK0_eq, methKL_eq, methKR_eq, methKE_eq, isLf_leaf, sat_inO, inOL_eq, inOR_eq, blO_bl, sat_isC, fIsC_ins, fIsC_non, sat_fld, fFld_eq, fldD_eq, sat_setFld, setFldK_eq, putF?_nil, putF?_cons, sat_methB, methBL_eq, methBR_eq, isC_eq, sat_callIo, callIoK_eq, sat_meth, toM_ok, toM_ex, sat_make, makeK_eq, ansK0_rt, ansK0_nx, ansX0_eq, back_ok0, back_ex0, ansK_rt, ansK_nx, ansX_eq, isR_eq, loopOk_nx, loopOk_ct, loopOk_bk, loopOk_rt, slot0, slot0n, slotS, List.mem_cons, List.not_mem_nil, String.reduceEq, List.set_cons_zero, List.set_cons_succ, List.length_cons, List.length_nil, List.length_map, List.map_cons, List.map_nil, List.cons_append, List.nil_append, List.append_nil, List.replicate_succ, List.replicate_zero, List.all_cons, List.all_nil, frzL_nil, frzL_cons, frz_leaf, frz_node, frzL_ints, frzL_st, shr_leaf, shr_node, shr_ints, hide, unhide, List.foldl_cons, List.foldl_nil, gPut_app, fLt_int, fLe_int, fGt_int, fGe_int, fAdd_int, fSub_int, fNeg_int, fAbs_int, fIntC_int, fIntC_bl, fMax2_int, fMin2_int, fMod_int, fDiv_int, fMul_l, fMul_r, pow_10_12, pow_10_15, pow_10_18, pow_10_20, pow_10_30, pow_10_60, pow_2_62, pow_2_63, pow_2_64, fLen_lst, fLen_tup, fEq_int, fNe_int, fEq_bl, fNe_bl, fListOf_ints, fEq_lit, fNe_lit, fIs_non, fIsNot_non, isNon_non, isNon_int, isNon_bl, isNon_str, isNon_node, fIx0, fIx1, fIx2, fIx3, fIx4, fIx5, fIt0, fIt1, fIt2, fIt3, fIt4, fIt5, isi_ii, isi_ib, isi_is, isi_in, isi_il, isi_it, isi_bi, isi_bb, isi_bs, isi_bn, isi_bL, isi_bt, isi_si, isi_sb, isi_ss, isi_sn, isi_sl, isi_st, isi_li, isi_lb, isi_ls, isi_ln, isi_ll, isi_lt, isi_ti, isi_tb, isi_ts, isi_tn, isi_tl, isi_tt, tyD_non, tyD_bl, tyD_int, tyD_str, tyD_lst, tyD_tup, noIns_leaf, noIns_lst, noIns_tup, bl?_bl, Option.bind_some, le_size, lt_size, Bool.not_true, Bool.not_false, Bool.false_eq_true, Bool.true_eq_false, if_true, if_false, true_and, and_true, false_and, and_false, decide_eq_true_eq, Bool.not_eq_true', decide_eq_false_iff_not, decide_true, decide_false, Bool.true_and, Bool.and_true, Bool.false_and, Bool.not_not, Option.some.injEq, and_self, true_or, or_true, false_or, or_false, not_true_eq_false, not_false_eq_true, eq_self, Int.toNat_natCast, Int.zero_add, Int.cast_ofNat_Int, Nat.zero_le, Nat.zero_lt_succ, Nat.reduceAdd, Nat.reduceSub, Nat.reduceLT, Nat.reduceLeDiff, Nat.reduceEqDiff, Int.reduceLT, Int.reduceLE, Int.reduceNeg, Int.reduceToNat, Int.reduceAdd, Int.reduceSub, Int.reduceMul, Int.reduceEq, reduceIte, e]
theorem run_waitx (o : Bool) (b f t n : Int) (h : n < 0) : m_Clock_c_wait_for [clk o b f, .int t, .int n] = .ex "BadArgument" [clk o b f] := by
  refine fn_is0 ?_
  have e := run_spx o b f n h
  simp only [sat_ret_eq, sat_ok_eq, sat_ex_eq, sat_no_eq, sat_ite_eq, sat_opt_eq, sat_ck_eq, optK_some, optK_none, optK_ite, sat_peek, sat_move, sat_var, varK_leaf, varK_fz, varK_own, varK_shr, moveK_eq, sat_op1, sat_op2, sat_ix, sat_opN, op1K_eq, op2L_eq, opNK_eq, sat_nil, sat_cons, consL_eq, consR_eq, sat_lst, sat_tup, lstK_eq, tupK_eq, sat_sh, shK_eq, sat_test, testK_bl, sat_notT, notK_eq, sat_andT, sat_orT, andK_eq, orK_eq, sat_and, sat_or, sat_not, blK_bl, andDK_eq, orDK_eq, notDK_eq, sat_ifD, ifDK_eq, sat_isi, isiK_eq, sat_chain, chainL_eq, chainM_eq, chainR_eq, sat_sl, slD_eq, slL_eq, slH_eq, sat_part, partK_int, runF_toF, runB_toB, toF_ok, toF_ex, toB_ok, toB_ex, sat_callF, sat_callB, callFK_eq, callBK_eq, sat_callFD, sat_callBD, callFDK_eq, callBDK_eq, sat_seq, seqK_nx, seqK_rt, seqK_bk, seqK_ct, sat_if, ifK_eq, sat_asg, asgK_put, asgK_tup, gasK_nil, gasK_cons, sat_setIx, setL_eq, setR_int, sat_drop, sat_mret, sat_retN, sat_raise, drpK_eq, retK_eq, sat_for, forK_eq, sat_comp, compK_eq, sat_iSeq, sat_iAny, seqSK_lst, seqSK_tup, anySK_str, anySK_lst, anySK_tup, sat_iRg1, rg1K_int, sat_iRg2, rg2L_int, rg2R_int, sat_append, appK, isL, ownL?, sat_extend, extK_own, sat_m1, m1L_str, m1R_eq, sat_aug, augL_int, augR_int, sat_join, joinL_str, joinR_eq, sat_tryAs, sat_try, tryX_eq, tryAsX_eq, sat_lf, lfK_leaf, sat_methK, methK0_eq, methKL_eq, methKR_eq, methKE_eq, isLf_leaf, sat_inO, inOL_eq, inOR_eq, blO_bl, sat_isC, fIsC_ins, fIsC_non, sat_fld, fFld_eq, fldD_eq, sat_setFld, setFldK_eq, putF?_nil, putF?_cons, sat_methB, methBL_eq, methBR_eq, isC_eq, sat_callIo, callIoK_eq, sat_meth, toM_ok, toM_ex, sat_make, makeK_eq, ansK0_rt, ansK0_nx, ansX0_eq, back_ok0, back_ex0, ansK_rt, ansK_nx, ansX_eq, isR_eq, loopOk_nx, loopOk_ct, loopOk_bk, loopOk_rt, slot0, slot0n, slotS, List.mem_cons, List.not_mem_nil, String.reduceEq, List.set_cons_zero, List.set_cons_succ, List.length_cons, List.length_nil, List.length_map, List.map_cons, List.map_nil, List.cons_append, List.nil_append, List.append_nil, List.replicate_succ, List.replicate_zero, List.all_cons, List.all_nil, frzL_nil, frzL_cons, frz_leaf, frz_node, frzL_ints, frzL_st, shr_leaf, shr_node, shr_ints, hide, unhide, List.foldl_cons, List.foldl_nil, gPut_app, fLt_int, fLe_int, fGt_int, fGe_int, fAdd_int, fSub_int, fNeg_int, fAbs_int, fIntC_int, fIntC_bl, fMax2_int, fMin2_int, fMod_int, fDiv_int, fMul_l, fMul_r, pow_10_12, pow_10_15, pow_10_18, pow_10_20, pow_10_30, pow_10_60, pow_2_62, pow_2_63, pow_2_64, fLen_lst, fLen_tup, fEq_int, fNe_int, fEq_bl, fNe_bl, fListOf_ints, fEq_lit, fNe_lit, fIs_non, fIsNot_non, isNon_non, isNon_int, isNon_bl, isNon_str, isNon_node, fIx0, fIx1, fIx2, fIx3, fIx4, fIx5, fIt0, fIt1, fIt2, fIt3, fIt4, fIt5, isi_ii, isi_ib, isi_is, isi_in, isi_il, isi_it, isi_bi, isi_bb, isi_bs, isi_bn, isi_bL, isi_bt, isi_si, isi_sb, isi_ss, isi_sn, isi_sl, isi_st, isi_li, isi_lb, isi_ls, isi_ln, isi_ll, isi_lt, isi_ti, isi_tb, isi_ts, isi_tn, isi_tl, isi_tt, tyD_non, tyD_bl, tyD_int, tyD_str, tyD_lst, tyD_tup, noIns_leaf, noIns_lst, noIns_tup, bl?_bl, Option.bind_some, le_size, lt_size, Bool.not_true, Bool.not_false, Bool.false_eq_true, Bool.true_eq_false, if_true, if_false, true_and, and_true, false_and, and_false, decide_eq_true_eq, Bool.not_eq_true', decide_eq_false_iff_not, decide_true, decide_false, Bool.true_and, Bool.and_true, Bool.false_and, Bool.not_not, Option.some.injEq, and_self, true_or, or_true, false_or, or_false, not_true_eq_false, not_false_eq_true, eq_self, Int.toNat_natCast, Int.zero_add, Int.cast_ofNat_Int, Nat.zero_le, Nat.zero_lt_succ, Nat.reduceAdd, Nat.reduceSub, Nat.reduceLT, Nat.reduceLeDiff, Nat.reduceEqDiff, Int.reduceLT, Int.reduceLE, Int.reduceNeg, Int.reduceToNat, Int.reduceAdd, Int.reduceSub, Int.reduceMul, Int.reduceEq, reduceIte, e]
theorem run_ref0 (o : Bool) (b f x : Int) (h : x < 0) : m__law_refused [clk o b f, .int 0, .int x] = .ok (.bl true) [clk o b f] := by
  refine fn_is0 ?_
  have e := run_newx x h
  simp only [sat_ret_eq, sat_ok_eq, sat_ex_eq, sat_no_eq, sat_ite_eq, sat_opt_eq, sat_ck_eq, optK_some, optK_none, optK_ite, sat_peek, sat_move, sat_var, varK_leaf, varK_fz, varK_own, varK_shr, moveK_eq, sat_op1, sat_op2, sat_ix, sat_opN, op1K_eq, op2L_eq, opNK_eq, sat_nil, sat_cons, consL_eq, consR_eq, sat_lst, sat_tup, lstK_eq, tupK_eq, sat_sh, shK_eq, sat_test, testK_bl, sat_notT, notK_eq, sat_andT, sat_orT, andK_eq, orK_eq, sat_and, sat_or, sat_not, blK_bl, andDK_eq, orDK_eq, notDK_eq, sat_ifD, ifDK_eq, sat_isi, isiK_eq, sat_chain, chainL_eq, chainM_eq, chainR_eq, sat_sl, slD_eq, slL_eq, slH_eq, sat_part, partK_int, runF_toF, runB_toB, toF_ok, toF_ex, toB_ok, toB_ex, sat_callF, sat_callB, callFK_eq, callBK_eq, sat_callFD, sat_callBD, callFDK_eq, callBDK_eq, sat_seq, seqK_nx, seqK_rt, seqK_bk, seqK_ct, sat_if, ifK_eq, sat_asg, asgK_put, asgK_tup, gasK_nil, gasK_cons, sat_setIx, setL_eq, setR_int, sat_drop, sat_mret, sat_retN, sat_raise, drpK_eq, retK_eq, sat_for, forK_eq, sat_comp, compK_eq, sat_iSeq, sat_iAny, seqSK_lst, seqSK_tup, anySK_str, anySK_lst, anySK_tup, sat_iRg1, rg1K_int, sat_iRg2, rg2L_int, rg2R_int, sat_append, appK, isL, ownL?, sat_extend, extK_own, sat_m1, m1L_str, m1R_eq, sat_aug, augL_int, augR_int, sat_join, joinL_str, joinR_eq, sat_tryAs, sat_try, tryX_eq, tryAsX_eq, sat_lf, lfK_leaf, sat_methK, methK0_eq, methKL_eq, methKR_eq, methKE_eq, isLf_leaf, sat_inO, inOL_eq, inOR_eq, blO_bl, sat_isC, fIsC_ins, fIsC_non, sat_fld, fFld_eq, fldD_eq, sat_setFld, setFldK_eq, putF?_nil, putF?_cons, sat_methB, methBL_eq, methBR_eq, isC_eq, sat_callIo, callIoK_eq, sat_meth, toM_ok, toM_ex, sat_make, makeK_eq, ansK0_rt, ansK0_nx, ansX0_eq, back_ok0, back_ex0, ansK_rt, ansK_nx, ansX_eq, isR_eq, loopOk_nx, loopOk_ct, loopOk_bk, loopOk_rt, slot0, slot0n, slotS, List.mem_cons, List.not_mem_nil, String.reduceEq, List.set_cons_zero, List.set_cons_succ, List.length_cons, List.length_nil, List.length_map, List.map_cons, List.map_nil, List.cons_append, List.nil_append, List.append_nil, List.replicate_succ, List.replicate_zero, List.all_cons, List.all_nil, frzL_nil, frzL_cons, frz_leaf, frz_node, frzL_ints, frzL_st, shr_leaf, shr_node, shr_ints, hide, unhide, List.foldl_cons, List.foldl_nil, gPut_app, fLt_int, fLe_int, fGt_int, fGe_int, fAdd_int, fSub_int, fNeg_int, fAbs_int, fIntC_int, fIntC_bl, fMax2_int, fMin2_int, fMod_int, fDiv_int, fMul_l, fMul_r, pow_10_12, pow_10_15, pow_10_18, pow_10_20, pow_10_30, pow_10_60, pow_2_62, pow_2_63, pow_2_64, fLen_lst, fLen_tup, fEq_int, fNe_int, fEq_bl, fNe_bl, fListOf_ints, fEq_lit, fNe_lit, fIs_non, fIsNot_non, isNon_non, isNon_int, isNon_bl, isNon_str, isNon_node, fIx0, fIx1, fIx2, fIx3, fIx4, fIx5, fIt0, fIt1, fIt2, fIt3, fIt4, fIt5, isi_ii, isi_ib, isi_is, isi_in, isi_il, isi_it, isi_bi, isi_bb, isi_bs, isi_bn, isi_bL, isi_bt, isi_si, isi_sb, isi_ss, isi_sn, isi_sl, isi_st, isi_li, isi_lb, isi_ls, isi_ln, isi_ll, isi_lt, isi_ti, isi_tb, isi_ts, isi_tn, isi_tl, isi_tt, tyD_non, tyD_bl, tyD_int, tyD_str, tyD_lst, tyD_tup, noIns_leaf, noIns_lst, noIns_tup, bl?_bl, Option.bind_some, le_size, lt_size, Bool.not_true, Bool.not_false, Bool.false_eq_true, Bool.true_eq_false, if_true, if_false, true_and, and_true, false_and, and_false, decide_eq_true_eq, Bool.not_eq_true', decide_eq_false_iff_not, decide_true, decide_false, Bool.true_and, Bool.and_true, Bool.false_and, Bool.not_not, Option.some.injEq, and_self, true_or, or_true, false_or, or_false, not_true_eq_false, not_false_eq_true, eq_self, Int.toNat_natCast, Int.zero_add, Int.cast_ofNat_Int, Nat.zero_le, Nat.zero_lt_succ, Nat.reduceAdd, Nat.reduceSub, Nat.reduceLT, Nat.reduceLeDiff, Nat.reduceEqDiff, Int.reduceLT, Int.reduceLE, Int.reduceNeg, Int.reduceToNat, Int.reduceAdd, Int.reduceSub, Int.reduceMul, Int.reduceEq, reduceIte, e]
theorem run_ref1 (o : Bool) (b f x : Int) (h : ¬ (-b ≤ x ∧ x ≤ b)) : m__law_refused [clk o b f, .int 1, .int x] = .ok (.bl true) [clk o b f] := by
  refine fn_is0 ?_
  have e := run_driftx o b f x h
  simp only [sat_ret_eq, sat_ok_eq, sat_ex_eq, sat_no_eq, sat_ite_eq, sat_opt_eq, sat_ck_eq, optK_some, optK_none, optK_ite, sat_peek, sat_move, sat_var, varK_leaf, varK_fz, varK_own, varK_shr, moveK_eq, sat_op1, sat_op2, sat_ix, sat_opN, op1K_eq, op2L_eq, opNK_eq, sat_nil, sat_cons, consL_eq, consR_eq, sat_lst, sat_tup, lstK_eq, tupK_eq, sat_sh, shK_eq, sat_test, testK_bl, sat_notT, notK_eq, sat_andT, sat_orT, andK_eq, orK_eq, sat_and, sat_or, sat_not, blK_bl, andDK_eq, orDK_eq, notDK_eq, sat_ifD, ifDK_eq, sat_isi, isiK_eq, sat_chain, chainL_eq, chainM_eq, chainR_eq, sat_sl, slD_eq, slL_eq, slH_eq, sat_part, partK_int, runF_toF, runB_toB, toF_ok, toF_ex, toB_ok, toB_ex, sat_callF, sat_callB, callFK_eq, callBK_eq, sat_callFD, sat_callBD, callFDK_eq, callBDK_eq, sat_seq, seqK_nx, seqK_rt, seqK_bk, seqK_ct, sat_if, ifK_eq, sat_asg, asgK_put, asgK_tup, gasK_nil, gasK_cons, sat_setIx, setL_eq, setR_int, sat_drop, sat_mret, sat_retN, sat_raise, drpK_eq, retK_eq, sat_for, forK_eq, sat_comp, compK_eq, sat_iSeq, sat_iAny, seqSK_lst, seqSK_tup, anySK_str, anySK_lst, anySK_tup, sat_iRg1, rg1K_int, sat_iRg2, rg2L_int, rg2R_int, sat_append, appK, isL, ownL?, sat_extend, extK_own, sat_m1, m1L_str, m1R_eq, sat_aug, augL_int, augR_int, sat_join, joinL_str, joinR_eq, sat_tryAs, sat_try, tryX_eq, tryAsX_eq, sat_lf, lfK_leaf, sat_methK, methK0_eq, methKL_eq, methKR_eq, methKE_eq, isLf_leaf, sat_inO, inOL_eq, inOR_eq, blO_bl, sat_isC, fIsC_ins, fIsC_non, sat_fld, fFld_eq, fldD_eq, sat_setFld, setFldK_eq, putF?_nil, putF?_cons, sat_methB, methBL_eq, methBR_eq, isC_eq, sat_callIo, callIoK_eq, sat_meth, toM_ok, toM_ex, sat_make, makeK_eq, ansK0_rt, ansK0_nx, ansX0_eq, back_ok0, back_ex0, ansK_rt, ansK_nx, ansX_eq, isR_eq, loopOk_nx, loopOk_ct, loopOk_bk, loopOk_rt, slot0, slot0n, slotS, List.mem_cons, List.not_mem_nil, String.reduceEq, List.set_cons_zero, List.set_cons_succ, List.length_cons, List.length_nil, List.length_map, List.map_cons, List.map_nil, List.cons_append, List.nil_append, List.append_nil, List.replicate_succ, List.replicate_zero, List.all_cons, List.all_nil, frzL_nil, frzL_cons, frz_leaf, frz_node, frzL_ints, frzL_st, shr_leaf, shr_node, shr_ints, hide, unhide, List.foldl_cons, List.foldl_nil, gPut_app, fLt_int, fLe_int, fGt_int, fGe_int, fAdd_int, fSub_int, fNeg_int, fAbs_int, fIntC_int, fIntC_bl, fMax2_int, fMin2_int, fMod_int, fDiv_int, fMul_l, fMul_r, pow_10_12, pow_10_15, pow_10_18, pow_10_20, pow_10_30, pow_10_60, pow_2_62, pow_2_63, pow_2_64, fLen_lst, fLen_tup, fEq_int, fNe_int, fEq_bl, fNe_bl, fListOf_ints, fEq_lit, fNe_lit, fIs_non, fIsNot_non, isNon_non, isNon_int, isNon_bl, isNon_str, isNon_node, fIx0, fIx1, fIx2, fIx3, fIx4, fIx5, fIt0, fIt1, fIt2, fIt3, fIt4, fIt5, isi_ii, isi_ib, isi_is, isi_in, isi_il, isi_it, isi_bi, isi_bb, isi_bs, isi_bn, isi_bL, isi_bt, isi_si, isi_sb, isi_ss, isi_sn, isi_sl, isi_st, isi_li, isi_lb, isi_ls, isi_ln, isi_ll, isi_lt, isi_ti, isi_tb, isi_ts, isi_tn, isi_tl, isi_tt, tyD_non, tyD_bl, tyD_int, tyD_str, tyD_lst, tyD_tup, noIns_leaf, noIns_lst, noIns_tup, bl?_bl, Option.bind_some, le_size, lt_size, Bool.not_true, Bool.not_false, Bool.false_eq_true, Bool.true_eq_false, if_true, if_false, true_and, and_true, false_and, and_false, decide_eq_true_eq, Bool.not_eq_true', decide_eq_false_iff_not, decide_true, decide_false, Bool.true_and, Bool.and_true, Bool.false_and, Bool.not_not, Option.some.injEq, and_self, true_or, or_true, false_or, or_false, not_true_eq_false, not_false_eq_true, eq_self, Int.toNat_natCast, Int.zero_add, Int.cast_ofNat_Int, Nat.zero_le, Nat.zero_lt_succ, Nat.reduceAdd, Nat.reduceSub, Nat.reduceLT, Nat.reduceLeDiff, Nat.reduceEqDiff, Int.reduceLT, Int.reduceLE, Int.reduceNeg, Int.reduceToNat, Int.reduceAdd, Int.reduceSub, Int.reduceMul, Int.reduceEq, reduceIte, e]
theorem run_ref2 (o : Bool) (b f x : Int) (h : x < 0) : m__law_refused [clk o b f, .int 2, .int x] = .ok (.bl true) [clk o b f] := by
  refine fn_is0 ?_
  have e := run_spx o b f x h
  simp only [sat_ret_eq, sat_ok_eq, sat_ex_eq, sat_no_eq, sat_ite_eq, sat_opt_eq, sat_ck_eq, optK_some, optK_none, optK_ite, sat_peek, sat_move, sat_var, varK_leaf, varK_fz, varK_own, varK_shr, moveK_eq, sat_op1, sat_op2, sat_ix, sat_opN, op1K_eq, op2L_eq, opNK_eq, sat_nil, sat_cons, consL_eq, consR_eq, sat_lst, sat_tup, lstK_eq, tupK_eq, sat_sh, shK_eq, sat_test, testK_bl, sat_notT, notK_eq, sat_andT, sat_orT, andK_eq, orK_eq, sat_and, sat_or, sat_not, blK_bl, andDK_eq, orDK_eq, notDK_eq, sat_ifD, ifDK_eq, sat_isi, isiK_eq, sat_chain, chainL_eq, chainM_eq, chainR_eq, sat_sl, slD_eq, slL_eq, slH_eq, sat_part, partK_int, runF_toF, runB_toB, toF_ok, toF_ex, toB_ok, toB_ex, sat_callF, sat_callB, callFK_eq, callBK_eq, sat_callFD, sat_callBD, callFDK_eq, callBDK_eq, sat_seq, seqK_nx, seqK_rt, seqK_bk, seqK_ct, sat_if, ifK_eq, sat_asg, asgK_put, asgK_tup, gasK_nil, gasK_cons, sat_setIx, setL_eq, setR_int, sat_drop, sat_mret, sat_retN, sat_raise, drpK_eq, retK_eq, sat_for, forK_eq, sat_comp, compK_eq, sat_iSeq, sat_iAny, seqSK_lst, seqSK_tup, anySK_str, anySK_lst, anySK_tup, sat_iRg1, rg1K_int, sat_iRg2, rg2L_int, rg2R_int, sat_append, appK, isL, ownL?, sat_extend, extK_own, sat_m1, m1L_str, m1R_eq, sat_aug, augL_int, augR_int, sat_join, joinL_str, joinR_eq, sat_tryAs, sat_try, tryX_eq, tryAsX_eq, sat_lf, lfK_leaf, sat_methK, methK0_eq, methKL_eq, methKR_eq, methKE_eq, isLf_leaf, sat_inO, inOL_eq, inOR_eq, blO_bl, sat_isC, fIsC_ins, fIsC_non, sat_fld, fFld_eq, fldD_eq, sat_setFld, setFldK_eq, putF?_nil, putF?_cons, sat_methB, methBL_eq, methBR_eq, isC_eq, sat_callIo, callIoK_eq, sat_meth, toM_ok, toM_ex, sat_make, makeK_eq, ansK0_rt, ansK0_nx, ansX0_eq, back_ok0, back_ex0, ansK_rt, ansK_nx, ansX_eq, isR_eq, loopOk_nx, loopOk_ct, loopOk_bk, loopOk_rt, slot0, slot0n, slotS, List.mem_cons, List.not_mem_nil, String.reduceEq, List.set_cons_zero, List.set_cons_succ, List.length_cons, List.length_nil, List.length_map, List.map_cons, List.map_nil, List.cons_append, List.nil_append, List.append_nil, List.replicate_succ, List.replicate_zero, List.all_cons, List.all_nil, frzL_nil, frzL_cons, frz_leaf, frz_node, frzL_ints, frzL_st, shr_leaf, shr_node, shr_ints, hide, unhide, List.foldl_cons, List.foldl_nil, gPut_app, fLt_int, fLe_int, fGt_int, fGe_int, fAdd_int, fSub_int, fNeg_int, fAbs_int, fIntC_int, fIntC_bl, fMax2_int, fMin2_int, fMod_int, fDiv_int, fMul_l, fMul_r, pow_10_12, pow_10_15, pow_10_18, pow_10_20, pow_10_30, pow_10_60, pow_2_62, pow_2_63, pow_2_64, fLen_lst, fLen_tup, fEq_int, fNe_int, fEq_bl, fNe_bl, fListOf_ints, fEq_lit, fNe_lit, fIs_non, fIsNot_non, isNon_non, isNon_int, isNon_bl, isNon_str, isNon_node, fIx0, fIx1, fIx2, fIx3, fIx4, fIx5, fIt0, fIt1, fIt2, fIt3, fIt4, fIt5, isi_ii, isi_ib, isi_is, isi_in, isi_il, isi_it, isi_bi, isi_bb, isi_bs, isi_bn, isi_bL, isi_bt, isi_si, isi_sb, isi_ss, isi_sn, isi_sl, isi_st, isi_li, isi_lb, isi_ls, isi_ln, isi_ll, isi_lt, isi_ti, isi_tb, isi_ts, isi_tn, isi_tl, isi_tt, tyD_non, tyD_bl, tyD_int, tyD_str, tyD_lst, tyD_tup, noIns_leaf, noIns_lst, noIns_tup, bl?_bl, Option.bind_some, le_size, lt_size, Bool.not_true, Bool.not_false, Bool.false_eq_true, Bool.true_eq_false, if_true, if_false, true_and, and_true, false_and, and_false, decide_eq_true_eq, Bool.not_eq_true', decide_eq_false_iff_not, decide_true, decide_false, Bool.true_and, Bool.and_true, Bool.false_and, Bool.not_not, Option.some.injEq, and_self, true_or, or_true, false_or, or_false, not_true_eq_false, not_false_eq_true, eq_self, Int.toNat_natCast, Int.zero_add, Int.cast_ofNat_Int, Nat.zero_le, Nat.zero_lt_succ, Nat.reduceAdd, Nat.reduceSub, Nat.reduceLT, Nat.reduceLeDiff, Nat.reduceEqDiff, Int.reduceLT, Int.reduceLE, Int.reduceNeg, Int.reduceToNat, Int.reduceAdd, Int.reduceSub, Int.reduceMul, Int.reduceEq, reduceIte, e]
theorem run_ref3 (o : Bool) (b f x : Int) (h : x < 0) : m__law_refused [clk o b f, .int 3, .int x] = .ok (.bl true) [clk o b f] := by
  refine fn_is0 ?_
  have e := run_waitx o b f 5 x h
  simp only [sat_ret_eq, sat_ok_eq, sat_ex_eq, sat_no_eq, sat_ite_eq, sat_opt_eq, sat_ck_eq, optK_some, optK_none, optK_ite, sat_peek, sat_move, sat_var, varK_leaf, varK_fz, varK_own, varK_shr, moveK_eq, sat_op1, sat_op2, sat_ix, sat_opN, op1K_eq, op2L_eq, opNK_eq, sat_nil, sat_cons, consL_eq, consR_eq, sat_lst, sat_tup, lstK_eq, tupK_eq, sat_sh, shK_eq, sat_test, testK_bl, sat_notT, notK_eq, sat_andT, sat_orT, andK_eq, orK_eq, sat_and, sat_or, sat_not, blK_bl, andDK_eq, orDK_eq, notDK_eq, sat_ifD, ifDK_eq, sat_isi, isiK_eq, sat_chain, chainL_eq, chainM_eq, chainR_eq, sat_sl, slD_eq, slL_eq, slH_eq, sat_part, partK_int, runF_toF, runB_toB, toF_ok, toF_ex, toB_ok, toB_ex, sat_callF, sat_callB, callFK_eq, callBK_eq, sat_callFD, sat_callBD, callFDK_eq, callBDK_eq, sat_seq, seqK_nx, seqK_rt, seqK_bk, seqK_ct, sat_if, ifK_eq, sat_asg, asgK_put, asgK_tup, gasK_nil, gasK_cons, sat_setIx, setL_eq, setR_int, sat_drop, sat_mret, sat_retN, sat_raise, drpK_eq, retK_eq, sat_for, forK_eq, sat_comp, compK_eq, sat_iSeq, sat_iAny, seqSK_lst, seqSK_tup, anySK_str, anySK_lst, anySK_tup, sat_iRg1, rg1K_int, sat_iRg2, rg2L_int, rg2R_int, sat_append, appK, isL, ownL?, sat_extend, extK_own, sat_m1, m1L_str, m1R_eq, sat_aug, augL_int, augR_int, sat_join, joinL_str, joinR_eq, sat_tryAs, sat_try, tryX_eq, tryAsX_eq, sat_lf, lfK_leaf, sat_methK, methK0_eq, methKL_eq, methKR_eq, methKE_eq, isLf_leaf, sat_inO, inOL_eq, inOR_eq, blO_bl, sat_isC, fIsC_ins, fIsC_non, sat_fld, fFld_eq, fldD_eq, sat_setFld, setFldK_eq, putF?_nil, putF?_cons, sat_methB, methBL_eq, methBR_eq, isC_eq, sat_callIo, callIoK_eq, sat_meth, toM_ok, toM_ex, sat_make, makeK_eq, ansK0_rt, ansK0_nx, ansX0_eq, back_ok0, back_ex0, ansK_rt, ansK_nx, ansX_eq, isR_eq, loopOk_nx, loopOk_ct, loopOk_bk, loopOk_rt, slot0, slot0n, slotS, List.mem_cons, List.not_mem_nil, String.reduceEq, List.set_cons_zero, List.set_cons_succ, List.length_cons, List.length_nil, List.length_map, List.map_cons, List.map_nil, List.cons_append, List.nil_append, List.append_nil, List.replicate_succ, List.replicate_zero, List.all_cons, List.all_nil, frzL_nil, frzL_cons, frz_leaf, frz_node, frzL_ints, frzL_st, shr_leaf, shr_node, shr_ints, hide, unhide, List.foldl_cons, List.foldl_nil, gPut_app, fLt_int, fLe_int, fGt_int, fGe_int, fAdd_int, fSub_int, fNeg_int, fAbs_int, fIntC_int, fIntC_bl, fMax2_int, fMin2_int, fMod_int, fDiv_int, fMul_l, fMul_r, pow_10_12, pow_10_15, pow_10_18, pow_10_20, pow_10_30, pow_10_60, pow_2_62, pow_2_63, pow_2_64, fLen_lst, fLen_tup, fEq_int, fNe_int, fEq_bl, fNe_bl, fListOf_ints, fEq_lit, fNe_lit, fIs_non, fIsNot_non, isNon_non, isNon_int, isNon_bl, isNon_str, isNon_node, fIx0, fIx1, fIx2, fIx3, fIx4, fIx5, fIt0, fIt1, fIt2, fIt3, fIt4, fIt5, isi_ii, isi_ib, isi_is, isi_in, isi_il, isi_it, isi_bi, isi_bb, isi_bs, isi_bn, isi_bL, isi_bt, isi_si, isi_sb, isi_ss, isi_sn, isi_sl, isi_st, isi_li, isi_lb, isi_ls, isi_ln, isi_ll, isi_lt, isi_ti, isi_tb, isi_ts, isi_tn, isi_tl, isi_tt, tyD_non, tyD_bl, tyD_int, tyD_str, tyD_lst, tyD_tup, noIns_leaf, noIns_lst, noIns_tup, bl?_bl, Option.bind_some, le_size, lt_size, Bool.not_true, Bool.not_false, Bool.false_eq_true, Bool.true_eq_false, if_true, if_false, true_and, and_true, false_and, and_false, decide_eq_true_eq, Bool.not_eq_true', decide_eq_false_iff_not, decide_true, decide_false, Bool.true_and, Bool.and_true, Bool.false_and, Bool.not_not, Option.some.injEq, and_self, true_or, or_true, false_or, or_false, not_true_eq_false, not_false_eq_true, eq_self, Int.toNat_natCast, Int.zero_add, Int.cast_ofNat_Int, Nat.zero_le, Nat.zero_lt_succ, Nat.reduceAdd, Nat.reduceSub, Nat.reduceLT, Nat.reduceLeDiff, Nat.reduceEqDiff, Int.reduceLT, Int.reduceLE, Int.reduceNeg, Int.reduceToNat, Int.reduceAdd, Int.reduceSub, Int.reduceMul, Int.reduceEq, reduceIte, e]
theorem run_in (lo hi t : Int) : m_Span_c___contains__ [spanD false lo hi, .int t] = .ok (.bl (decide (lo ≤ t) && decide (t ≤ hi))) [] := by
  refine fn_is ?_
  by_cases h : lo ≤ t
  · simp only [sat_ret_eq, sat_ok_eq, sat_ex_eq, sat_no_eq, sat_ite_eq, sat_opt_eq, sat_ck_eq, optK_some, optK_none, optK_ite, sat_peek, sat_move, sat_var, varK_leaf, varK_fz, varK_own, varK_shr, moveK_eq, sat_op1, sat_op2, sat_ix, sat_opN, op1K_eq, op2L_eq, opNK_eq, sat_nil, sat_cons, consL_eq, consR_eq, sat_lst, sat_tup, lstK_eq, tupK_eq, sat_sh, shK_eq, sat_test, testK_bl, sat_notT, notK_eq, sat_andT, sat_orT, andK_eq, orK_eq, sat_and, sat_or, sat_not, blK_bl, andDK_eq, orDK_eq, notDK_eq, sat_ifD, ifDK_eq, sat_isi, isiK_eq, sat_chain, chainL_eq, chainM_eq, chainR_eq, sat_sl, slD_eq, slL_eq, slH_eq, sat_part, partK_int, runF_toF, runB_toB, toF_ok, toF_ex, toB_ok, toB_ex, sat_callF, sat_callB, callFK_eq, callBK_eq, sat_callFD, sat_callBD, callFDK_eq, callBDK_eq, sat_seq, seqK_nx, seqK_rt, seqK_bk, seqK_ct, sat_if, ifK_eq, sat_asg, asgK_put, asgK_tup, gasK_nil, gasK_cons, sat_setIx, setL_eq, setR_int, sat_drop, sat_mret, sat_retN, sat_raise, drpK_eq, retK_eq, sat_for, forK_eq, sat_comp, compK_eq, sat_iSeq, sat_iAny, seqSK_lst, seqSK_tup, anySK_str, anySK_lst, anySK_tup, sat_iRg1, rg1K_int, sat_iRg2, rg2L_int, rg2R_int, sat_append, appK, isL, ownL?, sat_extend, extK_own, sat_m1, m1L_str, m1R_eq, sat_aug, augL_int, augR_int, sat_join, joinL_str, joinR_eq, sat_tryAs, sat_try, tryX_eq, tryAsX_eq, sat_lf, lfK_leaf, sat_methK, methK0_eq, methKL_eq, methKR_eq, methKE_eq, isLf_leaf, sat_inO, inOL_eq, inOR_eq, blO_bl, sat_isC, fIsC_ins, fIsC_non, sat_fld, fFld_eq, fldD_eq, sat_setFld, setFldK_eq, putF?_nil, putF?_cons, sat_methB, methBL_eq, methBR_eq, isC_eq, sat_callIo, callIoK_eq, sat_meth, toM_ok, toM_ex, sat_make, makeK_eq, ansK0_rt, ansK0_nx, ansX0_eq, back_ok0, back_ex0, ansK_rt, ansK_nx, ansX_eq, isR_eq, loopOk_nx, loopOk_ct, loopOk_bk, loopOk_rt, slot0, slot0n, slotS, List.mem_cons, List.not_mem_nil, String.reduceEq, List.set_cons_zero, List.set_cons_succ, List.length_cons, List.length_nil, List.length_map, List.map_cons, List.map_nil, List.cons_append, List.nil_append, List.append_nil, List.replicate_succ, List.replicate_zero, List.all_cons, List.all_nil, frzL_nil, frzL_cons, frz_leaf, frz_node, frzL_ints, frzL_st, shr_leaf, shr_node, shr_ints, hide, unhide, List.foldl_cons, List.foldl_nil, gPut_app, fLt_int, fLe_int, fGt_int, fGe_int, fAdd_int, fSub_int, fNeg_int, fAbs_int, fIntC_int, fIntC_bl, fMax2_int, fMin2_int, fMod_int, fDiv_int, fMul_l, fMul_r, pow_10_12, pow_10_15, pow_10_18, pow_10_20, pow_10_30, pow_10_60, pow_2_62, pow_2_63, pow_2_64, fLen_lst, fLen_tup, fEq_int, fNe_int, fEq_bl, fNe_bl, fListOf_ints, fEq_lit, fNe_lit, fIs_non, fIsNot_non, isNon_non, isNon_int, isNon_bl, isNon_str, isNon_node, fIx0, fIx1, fIx2, fIx3, fIx4, fIx5, fIt0, fIt1, fIt2, fIt3, fIt4, fIt5, isi_ii, isi_ib, isi_is, isi_in, isi_il, isi_it, isi_bi, isi_bb, isi_bs, isi_bn, isi_bL, isi_bt, isi_si, isi_sb, isi_ss, isi_sn, isi_sl, isi_st, isi_li, isi_lb, isi_ls, isi_ln, isi_ll, isi_lt, isi_ti, isi_tb, isi_ts, isi_tn, isi_tl, isi_tt, tyD_non, tyD_bl, tyD_int, tyD_str, tyD_lst, tyD_tup, noIns_leaf, noIns_lst, noIns_tup, bl?_bl, Option.bind_some, le_size, lt_size, Bool.not_true, Bool.not_false, Bool.false_eq_true, Bool.true_eq_false, if_true, if_false, true_and, and_true, false_and, and_false, decide_eq_true_eq, Bool.not_eq_true', decide_eq_false_iff_not, decide_true, decide_false, Bool.true_and, Bool.and_true, Bool.false_and, Bool.not_not, Option.some.injEq, and_self, true_or, or_true, false_or, or_false, not_true_eq_false, not_false_eq_true, eq_self, Int.toNat_natCast, Int.zero_add, Int.cast_ofNat_Int, Nat.zero_le, Nat.zero_lt_succ, Nat.reduceAdd, Nat.reduceSub, Nat.reduceLT, Nat.reduceLeDiff, Nat.reduceEqDiff, Int.reduceLT, Int.reduceLE, Int.reduceNeg, Int.reduceToNat, Int.reduceAdd, Int.reduceSub, Int.reduceMul, Int.reduceEq, reduceIte, h]
  · simp only [sat_ret_eq, sat_ok_eq, sat_ex_eq, sat_no_eq, sat_ite_eq, sat_opt_eq, sat_ck_eq, optK_some, optK_none, optK_ite, sat_peek, sat_move, sat_var, varK_leaf, varK_fz, varK_own, varK_shr, moveK_eq, sat_op1, sat_op2, sat_ix, sat_opN, op1K_eq, op2L_eq, opNK_eq, sat_nil, sat_cons, consL_eq, consR_eq, sat_lst, sat_tup, lstK_eq, tupK_eq, sat_sh, shK_eq, sat_test, testK_bl, sat_notT, notK_eq, sat_andT, sat_orT, andK_eq, orK_eq, sat_and, sat_or, sat_not, blK_bl, andDK_eq, orDK_eq, notDK_eq, sat_ifD, ifDK_eq, sat_isi, isiK_eq, sat_chain, chainL_eq, chainM_eq, chainR_eq, sat_sl, slD_eq, slL_eq, slH_eq, sat_part, partK_int, runF_toF, runB_toB, toF_ok, toF_ex, toB_ok, toB_ex, sat_callF, sat_callB, callFK_eq, callBK_eq, sat_callFD, sat_callBD, callFDK_eq, callBDK_eq, sat_seq, seqK_nx, seqK_rt, seqK_bk, seqK_ct, sat_if, ifK_eq, sat_asg, asgK_put, asgK_tup, gasK_nil, gasK_cons, sat_setIx, setL_eq, setR_int, sat_drop, sat_mret, sat_retN, sat_raise, drpK_eq, retK_eq, sat_for, forK_eq, sat_comp, compK_eq, sat_iSeq, sat_iAny, seqSK_lst, seqSK_tup, anySK_str, anySK_lst, anySK_tup, sat_iRg1, rg1K_int, sat_iRg2, rg2L_int, rg2R_int, sat_append, appK, isL, ownL?, sat_extend, extK_own, sat_m1, m1L_str, m1R_eq, sat_aug, augL_int, augR_int, sat_join, joinL_str, joinR_eq, sat_tryAs, sat_try, tryX_eq, tryAsX_eq, sat_lf, lfK_leaf, sat_methK, methK0_eq, methKL_eq, methKR_eq, methKE_eq, isLf_leaf, sat_inO, inOL_eq, inOR_eq, blO_bl, sat_isC, fIsC_ins, fIsC_non, sat_fld, fFld_eq, fldD_eq, sat_setFld, setFldK_eq, putF?_nil, putF?_cons, sat_methB, methBL_eq, methBR_eq, isC_eq, sat_callIo, callIoK_eq, sat_meth, toM_ok, toM_ex, sat_make, makeK_eq, ansK0_rt, ansK0_nx, ansX0_eq, back_ok0, back_ex0, ansK_rt, ansK_nx, ansX_eq, isR_eq, loopOk_nx, loopOk_ct, loopOk_bk, loopOk_rt, slot0, slot0n, slotS, List.mem_cons, List.not_mem_nil, String.reduceEq, List.set_cons_zero, List.set_cons_succ, List.length_cons, List.length_nil, List.length_map, List.map_cons, List.map_nil, List.cons_append, List.nil_append, List.append_nil, List.replicate_succ, List.replicate_zero, List.all_cons, List.all_nil, frzL_nil, frzL_cons, frz_leaf, frz_node, frzL_ints, frzL_st, shr_leaf, shr_node, shr_ints, hide, unhide, List.foldl_cons, List.foldl_nil, gPut_app, fLt_int, fLe_int, fGt_int, fGe_int, fAdd_int, fSub_int, fNeg_int, fAbs_int, fIntC_int, fIntC_bl, fMax2_int, fMin2_int, fMod_int, fDiv_int, fMul_l, fMul_r, pow_10_12, pow_10_15, pow_10_18, pow_10_20, pow_10_30, pow_10_60, pow_2_62, pow_2_63, pow_2_64, fLen_lst, fLen_tup, fEq_int, fNe_int, fEq_bl, fNe_bl, fListOf_ints, fEq_lit, fNe_lit, fIs_non, fIsNot_non, isNon_non, isNon_int, isNon_bl, isNon_str, isNon_node, fIx0, fIx1, fIx2, fIx3, fIx4, fIx5, fIt0, fIt1, fIt2, fIt3, fIt4, fIt5, isi_ii, isi_ib, isi_is, isi_in, isi_il, isi_it, isi_bi, isi_bb, isi_bs, isi_bn, isi_bL, isi_bt, isi_si, isi_sb, isi_ss, isi_sn, isi_sl, isi_st, isi_li, isi_lb, isi_ls, isi_ln, isi_ll, isi_lt, isi_ti, isi_tb, isi_ts, isi_tn, isi_tl, isi_tt, tyD_non, tyD_bl, tyD_int, tyD_str, tyD_lst, tyD_tup, noIns_leaf, noIns_lst, noIns_tup, bl?_bl, Option.bind_some, le_size, lt_size, Bool.not_true, Bool.not_false, Bool.false_eq_true, Bool.true_eq_false, if_true, if_false, true_and, and_true, false_and, and_false, decide_eq_true_eq, Bool.not_eq_true', decide_eq_false_iff_not, decide_true, decide_false, Bool.true_and, Bool.and_true, Bool.false_and, Bool.not_not, Option.some.injEq, and_self, true_or, or_true, false_or, or_false, not_true_eq_false, not_false_eq_true, eq_self, Int.toNat_natCast, Int.zero_add, Int.cast_ofNat_Int, Nat.zero_le, Nat.zero_lt_succ, Nat.reduceAdd, Nat.reduceSub, Nat.reduceLT, Nat.reduceLeDiff, Nat.reduceEqDiff, Int.reduceLT, Int.reduceLE, Int.reduceNeg, Int.reduceToNat, Int.reduceAdd, Int.reduceSub, Int.reduceMul, Int.reduceEq, reduceIte, h]
theorem run_past (lo hi t : Int) : m_Span_c_is_past [spanD false lo hi, .int t] = .ok (.bl (decide (t < lo))) [] := by
  refine fn_is ?_
  simp only [sat_ret_eq, sat_ok_eq, sat_ex_eq, sat_no_eq, sat_ite_eq, sat_opt_eq, sat_ck_eq, optK_some, optK_none, optK_ite, sat_peek, sat_move, sat_var, varK_leaf, varK_fz, varK_own, varK_shr, moveK_eq, sat_op1, sat_op2, sat_ix, sat_opN, op1K_eq, op2L_eq, opNK_eq, sat_nil, sat_cons, consL_eq, consR_eq, sat_lst, sat_tup, lstK_eq, tupK_eq, sat_sh, shK_eq, sat_test, testK_bl, sat_notT, notK_eq, sat_andT, sat_orT, andK_eq, orK_eq, sat_and, sat_or, sat_not, blK_bl, andDK_eq, orDK_eq, notDK_eq, sat_ifD, ifDK_eq, sat_isi, isiK_eq, sat_chain, chainL_eq, chainM_eq, chainR_eq, sat_sl, slD_eq, slL_eq, slH_eq, sat_part, partK_int, runF_toF, runB_toB, toF_ok, toF_ex, toB_ok, toB_ex, sat_callF, sat_callB, callFK_eq, callBK_eq, sat_callFD, sat_callBD, callFDK_eq, callBDK_eq, sat_seq, seqK_nx, seqK_rt, seqK_bk, seqK_ct, sat_if, ifK_eq, sat_asg, asgK_put, asgK_tup, gasK_nil, gasK_cons, sat_setIx, setL_eq, setR_int, sat_drop, sat_mret, sat_retN, sat_raise, drpK_eq, retK_eq, sat_for, forK_eq, sat_comp, compK_eq, sat_iSeq, sat_iAny, seqSK_lst, seqSK_tup, anySK_str, anySK_lst, anySK_tup, sat_iRg1, rg1K_int, sat_iRg2, rg2L_int, rg2R_int, sat_append, appK, isL, ownL?, sat_extend, extK_own, sat_m1, m1L_str, m1R_eq, sat_aug, augL_int, augR_int, sat_join, joinL_str, joinR_eq, sat_tryAs, sat_try, tryX_eq, tryAsX_eq, sat_lf, lfK_leaf, sat_methK, methK0_eq, methKL_eq, methKR_eq, methKE_eq, isLf_leaf, sat_inO, inOL_eq, inOR_eq, blO_bl, sat_isC, fIsC_ins, fIsC_non, sat_fld, fFld_eq, fldD_eq, sat_setFld, setFldK_eq, putF?_nil, putF?_cons, sat_methB, methBL_eq, methBR_eq, isC_eq, sat_callIo, callIoK_eq, sat_meth, toM_ok, toM_ex, sat_make, makeK_eq, ansK0_rt, ansK0_nx, ansX0_eq, back_ok0, back_ex0, ansK_rt, ansK_nx, ansX_eq, isR_eq, loopOk_nx, loopOk_ct, loopOk_bk, loopOk_rt, slot0, slot0n, slotS, List.mem_cons, List.not_mem_nil, String.reduceEq, List.set_cons_zero, List.set_cons_succ, List.length_cons, List.length_nil, List.length_map, List.map_cons, List.map_nil, List.cons_append, List.nil_append, List.append_nil, List.replicate_succ, List.replicate_zero, List.all_cons, List.all_nil, frzL_nil, frzL_cons, frz_leaf, frz_node, frzL_ints, frzL_st, shr_leaf, shr_node, shr_ints, hide, unhide, List.foldl_cons, List.foldl_nil, gPut_app, fLt_int, fLe_int, fGt_int, fGe_int, fAdd_int, fSub_int, fNeg_int, fAbs_int, fIntC_int, fIntC_bl, fMax2_int, fMin2_int, fMod_int, fDiv_int, fMul_l, fMul_r, pow_10_12, pow_10_15, pow_10_18, pow_10_20, pow_10_30, pow_10_60, pow_2_62, pow_2_63, pow_2_64, fLen_lst, fLen_tup, fEq_int, fNe_int, fEq_bl, fNe_bl, fListOf_ints, fEq_lit, fNe_lit, fIs_non, fIsNot_non, isNon_non, isNon_int, isNon_bl, isNon_str, isNon_node, fIx0, fIx1, fIx2, fIx3, fIx4, fIx5, fIt0, fIt1, fIt2, fIt3, fIt4, fIt5, isi_ii, isi_ib, isi_is, isi_in, isi_il, isi_it, isi_bi, isi_bb, isi_bs, isi_bn, isi_bL, isi_bt, isi_si, isi_sb, isi_ss, isi_sn, isi_sl, isi_st, isi_li, isi_lb, isi_ls, isi_ln, isi_ll, isi_lt, isi_ti, isi_tb, isi_ts, isi_tn, isi_tl, isi_tt, tyD_non, tyD_bl, tyD_int, tyD_str, tyD_lst, tyD_tup, noIns_leaf, noIns_lst, noIns_tup, bl?_bl, Option.bind_some, le_size, lt_size, Bool.not_true, Bool.not_false, Bool.false_eq_true, Bool.true_eq_false, if_true, if_false, true_and, and_true, false_and, and_false, decide_eq_true_eq, Bool.not_eq_true', decide_eq_false_iff_not, decide_true, decide_false, Bool.true_and, Bool.and_true, Bool.false_and, Bool.not_not, Option.some.injEq, and_self, true_or, or_true, false_or, or_false, not_true_eq_false, not_false_eq_true, eq_self, Int.toNat_natCast, Int.zero_add, Int.cast_ofNat_Int, Nat.zero_le, Nat.zero_lt_succ, Nat.reduceAdd, Nat.reduceSub, Nat.reduceLT, Nat.reduceLeDiff, Nat.reduceEqDiff, Int.reduceLT, Int.reduceLE, Int.reduceNeg, Int.reduceToNat, Int.reduceAdd, Int.reduceSub, Int.reduceMul, Int.reduceEq, reduceIte]
theorem run_shows (o : Bool) (b f n : Int) (hb : 0 ≤ b) (h : 0 ≤ n) (h1 : -b ≤ f) (h2 : f ≤ b) : m__law_shows [clk o b f, .int b, .int f, .int n] = .ok (.bl true) [clk o b f] := by
  refine fn_is0 ?_
  have e := run_sp o b f n hb h
  have i := run_in (n + f - b) (n + f + b) n
  have k1 : n + f - b ≤ n := by omega
  have k2 : n ≤ n + f + b := by omega
  simp only [sat_ret_eq, sat_ok_eq, sat_ex_eq, sat_no_eq, sat_ite_eq, sat_opt_eq, sat_ck_eq, optK_some, optK_none, optK_ite, sat_peek, sat_move, sat_var, varK_leaf, varK_fz, varK_own, varK_shr, moveK_eq, sat_op1, sat_op2, sat_ix, sat_opN, op1K_eq, op2L_eq, opNK_eq, sat_nil, sat_cons, consL_eq, consR_eq, sat_lst, sat_tup, lstK_eq, tupK_eq, sat_sh, shK_eq, sat_test, testK_bl, sat_notT, notK_eq, sat_andT, sat_orT, andK_eq, orK_eq, sat_and, sat_or, sat_not, blK_bl, andDK_eq, orDK_eq, notDK_eq, sat_ifD, ifDK_eq, sat_isi, isiK_eq, sat_chain, chainL_eq, chainM_eq, chainR_eq, sat_sl, slD_eq, slL_eq, slH_eq, sat_part, partK_int, runF_toF, runB_toB, toF_ok, toF_ex, toB_ok, toB_ex, sat_callF, sat_callB, callFK_eq, callBK_eq, sat_callFD, sat_callBD, callFDK_eq, callBDK_eq, sat_seq, seqK_nx, seqK_rt, seqK_bk, seqK_ct, sat_if, ifK_eq, sat_asg, asgK_put, asgK_tup, gasK_nil, gasK_cons, sat_setIx, setL_eq, setR_int, sat_drop, sat_mret, sat_retN, sat_raise, drpK_eq, retK_eq, sat_for, forK_eq, sat_comp, compK_eq, sat_iSeq, sat_iAny, seqSK_lst, seqSK_tup, anySK_str, anySK_lst, anySK_tup, sat_iRg1, rg1K_int, sat_iRg2, rg2L_int, rg2R_int, sat_append, appK, isL, ownL?, sat_extend, extK_own, sat_m1, m1L_str, m1R_eq, sat_aug, augL_int, augR_int, sat_join, joinL_str, joinR_eq, sat_tryAs, sat_try, tryX_eq, tryAsX_eq, sat_lf, lfK_leaf, sat_methK, methK0_eq, methKL_eq, methKR_eq, methKE_eq, isLf_leaf, sat_inO, inOL_eq, inOR_eq, blO_bl, sat_isC, fIsC_ins, fIsC_non, sat_fld, fFld_eq, fldD_eq, sat_setFld, setFldK_eq, putF?_nil, putF?_cons, sat_methB, methBL_eq, methBR_eq, isC_eq, sat_callIo, callIoK_eq, sat_meth, toM_ok, toM_ex, sat_make, makeK_eq, ansK0_rt, ansK0_nx, ansX0_eq, back_ok0, back_ex0, ansK_rt, ansK_nx, ansX_eq, isR_eq, loopOk_nx, loopOk_ct, loopOk_bk, loopOk_rt, slot0, slot0n, slotS, List.mem_cons, List.not_mem_nil, String.reduceEq, List.set_cons_zero, List.set_cons_succ, List.length_cons, List.length_nil, List.length_map, List.map_cons, List.map_nil, List.cons_append, List.nil_append, List.append_nil, List.replicate_succ, List.replicate_zero, List.all_cons, List.all_nil, frzL_nil, frzL_cons, frz_leaf, frz_node, frzL_ints, frzL_st, shr_leaf, shr_node, shr_ints, hide, unhide, List.foldl_cons, List.foldl_nil, gPut_app, fLt_int, fLe_int, fGt_int, fGe_int, fAdd_int, fSub_int, fNeg_int, fAbs_int, fIntC_int, fIntC_bl, fMax2_int, fMin2_int, fMod_int, fDiv_int, fMul_l, fMul_r, pow_10_12, pow_10_15, pow_10_18, pow_10_20, pow_10_30, pow_10_60, pow_2_62, pow_2_63, pow_2_64, fLen_lst, fLen_tup, fEq_int, fNe_int, fEq_bl, fNe_bl, fListOf_ints, fEq_lit, fNe_lit, fIs_non, fIsNot_non, isNon_non, isNon_int, isNon_bl, isNon_str, isNon_node, fIx0, fIx1, fIx2, fIx3, fIx4, fIx5, fIt0, fIt1, fIt2, fIt3, fIt4, fIt5, isi_ii, isi_ib, isi_is, isi_in, isi_il, isi_it, isi_bi, isi_bb, isi_bs, isi_bn, isi_bL, isi_bt, isi_si, isi_sb, isi_ss, isi_sn, isi_sl, isi_st, isi_li, isi_lb, isi_ls, isi_ln, isi_ll, isi_lt, isi_ti, isi_tb, isi_ts, isi_tn, isi_tl, isi_tt, tyD_non, tyD_bl, tyD_int, tyD_str, tyD_lst, tyD_tup, noIns_leaf, noIns_lst, noIns_tup, bl?_bl, Option.bind_some, le_size, lt_size, Bool.not_true, Bool.not_false, Bool.false_eq_true, Bool.true_eq_false, if_true, if_false, true_and, and_true, false_and, and_false, decide_eq_true_eq, Bool.not_eq_true', decide_eq_false_iff_not, decide_true, decide_false, Bool.true_and, Bool.and_true, Bool.false_and, Bool.not_not, Option.some.injEq, and_self, true_or, or_true, false_or, or_false, not_true_eq_false, not_false_eq_true, eq_self, Int.toNat_natCast, Int.zero_add, Int.cast_ofNat_Int, Nat.zero_le, Nat.zero_lt_succ, Nat.reduceAdd, Nat.reduceSub, Nat.reduceLT, Nat.reduceLeDiff, Nat.reduceEqDiff, Int.reduceLT, Int.reduceLE, Int.reduceNeg, Int.reduceToNat, Int.reduceAdd, Int.reduceSub, Int.reduceMul, Int.reduceEq, reduceIte, e, i, k1, k2, bne_self_eq_false, beq_self_eq_true]
theorem law_true (ns : List Int) (h : ns.length ≤ 63) : m_law [.lst false (ns.map D.int)] = .ok (.bl true) [] := by
  have ck : ∀ k : Nat, m__law_cell [.lst false (ns.map D.int), .int (k : Int)] = .ok (.int (cell ns k)) [] := run_cell ns
  have c0 : m__law_cell [.lst false (ns.map D.int), .int 0] = .ok (.int (cell ns 0)) [] := ck 0
  have c1 : m__law_cell [.lst false (ns.map D.int), .int 1] = .ok (.int (cell ns 1)) [] := ck 1
  have h0 := cell_nonneg ns 0
  have h1 := cell_nonneg ns 1
  obtain ⟨y, hy, ey⟩ := run_number (cell ns 0) h0
  obtain ⟨z, hz, ez⟩ := run_number (cell ns 1) h1
  generalize cell ns 0 = a0 at c0 h0 ey
  generalize cell ns 1 = a1 at c1 h1 ez
  obtain ⟨b, hb, eb⟩ := pickL (o := true) [a0 % 41, y] (a1 % 2) (md_nn a1 2 (by decide)).1 (md_nn a1 2 (by decide)).2
  have hb : 0 ≤ b := by
    have := (md_nn a0 41 (by decide)).1
    simp only [List.mem_cons, List.not_mem_nil, or_false] at hb
    omega
  simp only [List.map_cons, List.map_nil] at eb
  have mk := run_new b hb
  have sh := run_shows true b 0 z hb hz (by omega) (by omega)
  refine fn_is ?_
  simp only [sat_ret_eq, sat_ok_eq, sat_ex_eq, sat_no_eq, sat_ite_eq, sat_opt_eq, sat_ck_eq, optK_some, optK_none, optK_ite, sat_peek, sat_move, sat_var, varK_leaf, varK_fz, varK_own, varK_shr, moveK_eq, sat_op1, sat_op2, sat_ix, sat_opN, op1K_eq, op2L_eq, opNK_eq, sat_nil, sat_cons, consL_eq, consR_eq, sat_lst, sat_tup, lstK_eq, tupK_eq, sat_sh, shK_eq, sat_test, testK_bl, sat_notT, notK_eq, sat_andT, sat_orT, andK_eq, orK_eq, sat_and, sat_or, sat_not, blK_bl, andDK_eq, orDK_eq, notDK_eq, sat_ifD, ifDK_eq, sat_isi, isiK_eq, sat_chain, chainL_eq, chainM_eq, chainR_eq, sat_sl, slD_eq, slL_eq, slH_eq, sat_part, partK_int, runF_toF, runB_toB, toF_ok, toF_ex, toB_ok, toB_ex, sat_callF, sat_callB, callFK_eq, callBK_eq, sat_callFD, sat_callBD, callFDK_eq, callBDK_eq, sat_seq, seqK_nx, seqK_rt, seqK_bk, seqK_ct, sat_if, ifK_eq, sat_asg, asgK_put, asgK_tup, gasK_nil, gasK_cons, sat_setIx, setL_eq, setR_int, sat_drop, sat_mret, sat_retN, sat_raise, drpK_eq, retK_eq, sat_for, forK_eq, sat_comp, compK_eq, sat_iSeq, sat_iAny, seqSK_lst, seqSK_tup, anySK_str, anySK_lst, anySK_tup, sat_iRg1, rg1K_int, sat_iRg2, rg2L_int, rg2R_int, sat_append, appK, isL, ownL?, sat_extend, extK_own, sat_m1, m1L_str, m1R_eq, sat_aug, augL_int, augR_int, sat_join, joinL_str, joinR_eq, sat_tryAs, sat_try, tryX_eq, tryAsX_eq, sat_lf, lfK_leaf, sat_methK, methK0_eq, methKL_eq, methKR_eq, methKE_eq, isLf_leaf, sat_inO, inOL_eq, inOR_eq, blO_bl, sat_isC, fIsC_ins, fIsC_non, sat_fld, fFld_eq, fldD_eq, sat_setFld, setFldK_eq, putF?_nil, putF?_cons, sat_methB, methBL_eq, methBR_eq, isC_eq, sat_callIo, callIoK_eq, sat_meth, toM_ok, toM_ex, sat_make, makeK_eq, ansK0_rt, ansK0_nx, ansX0_eq, back_ok0, back_ex0, ansK_rt, ansK_nx, ansX_eq, isR_eq, loopOk_nx, loopOk_ct, loopOk_bk, loopOk_rt, slot0, slot0n, slotS, List.mem_cons, List.not_mem_nil, String.reduceEq, List.set_cons_zero, List.set_cons_succ, List.length_cons, List.length_nil, List.length_map, List.map_cons, List.map_nil, List.cons_append, List.nil_append, List.append_nil, List.replicate_succ, List.replicate_zero, List.all_cons, List.all_nil, frzL_nil, frzL_cons, frz_leaf, frz_node, frzL_ints, frzL_st, shr_leaf, shr_node, shr_ints, hide, unhide, List.foldl_cons, List.foldl_nil, gPut_app, fLt_int, fLe_int, fGt_int, fGe_int, fAdd_int, fSub_int, fNeg_int, fAbs_int, fIntC_int, fIntC_bl, fMax2_int, fMin2_int, fMod_int, fDiv_int, fMul_l, fMul_r, pow_10_12, pow_10_15, pow_10_18, pow_10_20, pow_10_30, pow_10_60, pow_2_62, pow_2_63, pow_2_64, fLen_lst, fLen_tup, fEq_int, fNe_int, fEq_bl, fNe_bl, fListOf_ints, fEq_lit, fNe_lit, fIs_non, fIsNot_non, isNon_non, isNon_int, isNon_bl, isNon_str, isNon_node, fIx0, fIx1, fIx2, fIx3, fIx4, fIx5, fIt0, fIt1, fIt2, fIt3, fIt4, fIt5, isi_ii, isi_ib, isi_is, isi_in, isi_il, isi_it, isi_bi, isi_bb, isi_bs, isi_bn, isi_bL, isi_bt, isi_si, isi_sb, isi_ss, isi_sn, isi_sl, isi_st, isi_li, isi_lb, isi_ls, isi_ln, isi_ll, isi_lt, isi_ti, isi_tb, isi_ts, isi_tn, isi_tl, isi_tt, tyD_non, tyD_bl, tyD_int, tyD_str, tyD_lst, tyD_tup, noIns_leaf, noIns_lst, noIns_tup, bl?_bl, Option.bind_some, le_size, lt_size, Bool.not_true, Bool.not_false, Bool.false_eq_true, Bool.true_eq_false, if_true, if_false, true_and, and_true, false_and, and_false, decide_eq_true_eq, Bool.not_eq_true', decide_eq_false_iff_not, decide_true, decide_false, Bool.true_and, Bool.and_true, Bool.false_and, Bool.not_not, Option.some.injEq, and_self, true_or, or_true, false_or, or_false, not_true_eq_false, not_false_eq_true, eq_self, Int.toNat_natCast, Int.zero_add, Int.cast_ofNat_Int, Nat.zero_le, Nat.zero_lt_succ, Nat.reduceAdd, Nat.reduceSub, Nat.reduceLT, Nat.reduceLeDiff, Nat.reduceEqDiff, Int.reduceLT, Int.reduceLE, Int.reduceNeg, Int.reduceToNat, Int.reduceAdd, Int.reduceSub, Int.reduceMul, Int.reduceEq, reduceIte, c0, c1, ey, ez, eb, mk, sh, show bnd 2 = true from by decide, show bnd 10 = true from by decide]
  refine for_rg (I := fun i r => ∃ (f : Int) (c d e g h j : Option D), r = [some (.lst false (ns.map D.int)), some (.int b), some (clk true b f), c, d, e, g, h, j])
    ⟨0, none, none, none, none, none, none, rfl⟩ ?_ ?_
  · rintro i r hi ⟨f, c, d, e, g, h, j, rfl⟩
    refine ⟨_, rfl, ?_⟩
    have ci := ck (2 + i)
    rw [show ((2 + i : Nat) : Int) = 2 + (i : Int) from by omega] at ci
    have hc := cell_nonneg ns (2 + i)
    generalize cell ns (2 + i) = c at ci hc
    have dm := fMod_int c (2 * b + 1) (by omega)
    have mr := md_nn c (2 * b + 1) (by omega)
    obtain ⟨s, hs, es⟩ := pickL (o := true) [b, -b, c % (2 * b + 1) - b, 0] (c % 4) (md_nn c 4 (by decide)).1 (md_nn c 4 (by decide)).2
    have hs : -b ≤ s ∧ s ≤ b := by
      simp only [List.mem_cons, List.not_mem_nil, or_false] at hs
      generalize c % (2 * b + 1) = w at mr hs
      omega
    simp only [List.map_cons, List.map_nil] at es
    obtain ⟨n, hn, en⟩ := run_number (c / 4) (Int.ediv_nonneg hc (by decide))
    have dr := run_drift b f s hs.1 hs.2
    have m9 := md_nn c 9 (by decide)
    have r1 := run_ref1 true b s (b + 1 + c % 9) (by omega)
    have r2 := run_ref1 true b s (-b - 1 - c % 9) (by omega)
    have r3 := run_ref2 true b s (-1 - n) (by omega)
    have r4 := run_ref3 true b s (-1 - n) (by omega)
    have sw := run_shows true b s n hb hn hs.1 hs.2
    obtain ⟨t, _, et⟩ := pickL (o := true) [0, 1, b, -b, c % 77 - 20] (c % 5) (md_nn c 5 (by decide)).1 (md_nn c 5 (by decide)).2
    simp only [List.map_cons, List.map_nil] at et
    have wt := run_wait true b s (n + t) n hb hn
    obtain ⟨w, ew⟩ : ∃ w, (if n + t - (n + s - b) + 1 > 0 then n + t - (n + s - b) + 1 else 0) = w := ⟨_, rfl⟩
    rw [ew] at wt
    have w0 : 0 ≤ w := by rw [← ew]; split <;> omega
    have s1 := run_sp true b s (n + w) hb (by omega)
    have p1 := run_past (n + w + s - b) (n + w + s + b) (n + t)
    have q1 : n + t < n + w + s - b := by rw [← ew]; split <;> omega
    have nw : ¬ w < 0 := by omega
    unfold b_law_0
    by_cases hw : w > 0
    · have s2 := run_sp true b s (n + w - 1) hb (by omega)
      have p2 := run_past (n + w - 1 + s - b) (n + w - 1 + s + b) (n + t)
      have ww : w = n + t - (n + s - b) + 1 := by
        by_cases z : n + t - (n + s - b) + 1 > 0
        · rw [if_pos z] at ew; exact ew.symm
        · rw [if_neg z] at ew; omega
      have q2 : ¬ n + t < n + w - 1 + s - b := by omega
      simp only [sat_ret_eq, sat_ok_eq, sat_ex_eq, sat_no_eq, sat_ite_eq, sat_opt_eq, sat_ck_eq, optK_some, optK_none, optK_ite, sat_peek, sat_move, sat_var, varK_leaf, varK_fz, varK_own, varK_shr, moveK_eq, sat_op1, sat_op2, sat_ix, sat_opN, op1K_eq, op2L_eq, opNK_eq, sat_nil, sat_cons, consL_eq, consR_eq, sat_lst, sat_tup, lstK_eq, tupK_eq, sat_sh, shK_eq, sat_test, testK_bl, sat_notT, notK_eq, sat_andT, sat_orT, andK_eq, orK_eq, sat_and, sat_or, sat_not, blK_bl, andDK_eq, orDK_eq, notDK_eq, sat_ifD, ifDK_eq, sat_isi, isiK_eq, sat_chain, chainL_eq, chainM_eq, chainR_eq, sat_sl, slD_eq, slL_eq, slH_eq, sat_part, partK_int, runF_toF, runB_toB, toF_ok, toF_ex, toB_ok, toB_ex, sat_callF, sat_callB, callFK_eq, callBK_eq, sat_callFD, sat_callBD, callFDK_eq, callBDK_eq, sat_seq, seqK_nx, seqK_rt, seqK_bk, seqK_ct, sat_if, ifK_eq, sat_asg, asgK_put, asgK_tup, gasK_nil, gasK_cons, sat_setIx, setL_eq, setR_int, sat_drop, sat_mret, sat_retN, sat_raise, drpK_eq, retK_eq, sat_for, forK_eq, sat_comp, compK_eq, sat_iSeq, sat_iAny, seqSK_lst, seqSK_tup, anySK_str, anySK_lst, anySK_tup, sat_iRg1, rg1K_int, sat_iRg2, rg2L_int, rg2R_int, sat_append, appK, isL, ownL?, sat_extend, extK_own, sat_m1, m1L_str, m1R_eq, sat_aug, augL_int, augR_int, sat_join, joinL_str, joinR_eq, sat_tryAs, sat_try, tryX_eq, tryAsX_eq, sat_lf, lfK_leaf, sat_methK, methK0_eq, methKL_eq, methKR_eq, methKE_eq, isLf_leaf, sat_inO, inOL_eq, inOR_eq, blO_bl, sat_isC, fIsC_ins, fIsC_non, sat_fld, fFld_eq, fldD_eq, sat_setFld, setFldK_eq, putF?_nil, putF?_cons, sat_methB, methBL_eq, methBR_eq, isC_eq, sat_callIo, callIoK_eq, sat_meth, toM_ok, toM_ex, sat_make, makeK_eq, ansK0_rt, ansK0_nx, ansX0_eq, back_ok0, back_ex0, ansK_rt, ansK_nx, ansX_eq, isR_eq, loopOk_nx, loopOk_ct, loopOk_bk, loopOk_rt, slot0, slot0n, slotS, List.mem_cons, List.not_mem_nil, String.reduceEq, List.set_cons_zero, List.set_cons_succ, List.length_cons, List.length_nil, List.length_map, List.map_cons, List.map_nil, List.cons_append, List.nil_append, List.append_nil, List.replicate_succ, List.replicate_zero, List.all_cons, List.all_nil, frzL_nil, frzL_cons, frz_leaf, frz_node, frzL_ints, frzL_st, shr_leaf, shr_node, shr_ints, hide, unhide, List.foldl_cons, List.foldl_nil, gPut_app, fLt_int, fLe_int, fGt_int, fGe_int, fAdd_int, fSub_int, fNeg_int, fAbs_int, fIntC_int, fIntC_bl, fMax2_int, fMin2_int, fMod_int, fDiv_int, fMul_l, fMul_r, pow_10_12, pow_10_15, pow_10_18, pow_10_20, pow_10_30, pow_10_60, pow_2_62, pow_2_63, pow_2_64, fLen_lst, fLen_tup, fEq_int, fNe_int, fEq_bl, fNe_bl, fListOf_ints, fEq_lit, fNe_lit, fIs_non, fIsNot_non, isNon_non, isNon_int, isNon_bl, isNon_str, isNon_node, fIx0, fIx1, fIx2, fIx3, fIx4, fIx5, fIt0, fIt1, fIt2, fIt3, fIt4, fIt5, isi_ii, isi_ib, isi_is, isi_in, isi_il, isi_it, isi_bi, isi_bb, isi_bs, isi_bn, isi_bL, isi_bt, isi_si, isi_sb, isi_ss, isi_sn, isi_sl, isi_st, isi_li, isi_lb, isi_ls, isi_ln, isi_ll, isi_lt, isi_ti, isi_tb, isi_ts, isi_tn, isi_tl, isi_tt, tyD_non, tyD_bl, tyD_int, tyD_str, tyD_lst, tyD_tup, noIns_leaf, noIns_lst, noIns_tup, bl?_bl, Option.bind_some, le_size, lt_size, Bool.not_true, Bool.not_false, Bool.false_eq_true, Bool.true_eq_false, if_true, if_false, true_and, and_true, false_and, and_false, decide_eq_true_eq, Bool.not_eq_true', decide_eq_false_iff_not, decide_true, decide_false, Bool.true_and, Bool.and_true, Bool.false_and, Bool.not_not, Option.some.injEq, and_self, true_or, or_true, false_or, or_false, not_true_eq_false, not_false_eq_true, eq_self, Int.toNat_natCast, Int.zero_add, Int.cast_ofNat_Int, Nat.zero_le, Nat.zero_lt_succ, Nat.reduceAdd, Nat.reduceSub, Nat.reduceLT, Nat.reduceLeDiff, Nat.reduceEqDiff, Int.reduceLT, Int.reduceLE, Int.reduceNeg, Int.reduceToNat, Int.reduceAdd, Int.reduceSub, Int.reduceMul, Int.reduceEq, reduceIte, ci, dm, es, en, dr, r1, r2, r3, r4, sw, et, wt, s1, p1, q1, run_is_int, nw, hw, s2, p2, q2]
      exact ⟨s, _, _, _, _, _, _, rfl⟩
    · simp only [sat_ret_eq, sat_ok_eq, sat_ex_eq, sat_no_eq, sat_ite_eq, sat_opt_eq, sat_ck_eq, optK_some, optK_none, optK_ite, sat_peek, sat_move, sat_var, varK_leaf, varK_fz, varK_own, varK_shr, moveK_eq, sat_op1, sat_op2, sat_ix, sat_opN, op1K_eq, op2L_eq, opNK_eq, sat_nil, sat_cons, consL_eq, consR_eq, sat_lst, sat_tup, lstK_eq, tupK_eq, sat_sh, shK_eq, sat_test, testK_bl, sat_notT, notK_eq, sat_andT, sat_orT, andK_eq, orK_eq, sat_and, sat_or, sat_not, blK_bl, andDK_eq, orDK_eq, notDK_eq, sat_ifD, ifDK_eq, sat_isi, isiK_eq, sat_chain, chainL_eq, chainM_eq, chainR_eq, sat_sl, slD_eq, slL_eq, slH_eq, sat_part, partK_int, runF_toF, runB_toB, toF_ok, toF_ex, toB_ok, toB_ex, sat_callF, sat_callB, callFK_eq, callBK_eq, sat_callFD, sat_callBD, callFDK_eq, callBDK_eq, sat_seq, seqK_nx, seqK_rt, seqK_bk, seqK_ct, sat_if, ifK_eq, sat_asg, asgK_put, asgK_tup, gasK_nil, gasK_cons, sat_setIx, setL_eq, setR_int, sat_drop, sat_mret, sat_retN, sat_raise, drpK_eq, retK_eq, sat_for, forK_eq, sat_comp, compK_eq, sat_iSeq, sat_iAny, seqSK_lst, seqSK_tup, anySK_str, anySK_lst, anySK_tup, sat_iRg1, rg1K_int, sat_iRg2, rg2L_int, rg2R_int, sat_append, appK, isL, ownL?, sat_extend, extK_own, sat_m1, m1L_str, m1R_eq, sat_aug, augL_int, augR_int, sat_join, joinL_str, joinR_eq, sat_tryAs, sat_try, tryX_eq, tryAsX_eq, sat_lf, lfK_leaf, sat_methK, methK0_eq, methKL_eq, methKR_eq, methKE_eq, isLf_leaf, sat_inO, inOL_eq, inOR_eq, blO_bl, sat_isC, fIsC_ins, fIsC_non, sat_fld, fFld_eq, fldD_eq, sat_setFld, setFldK_eq, putF?_nil, putF?_cons, sat_methB, methBL_eq, methBR_eq, isC_eq, sat_callIo, callIoK_eq, sat_meth, toM_ok, toM_ex, sat_make, makeK_eq, ansK0_rt, ansK0_nx, ansX0_eq, back_ok0, back_ex0, ansK_rt, ansK_nx, ansX_eq, isR_eq, loopOk_nx, loopOk_ct, loopOk_bk, loopOk_rt, slot0, slot0n, slotS, List.mem_cons, List.not_mem_nil, String.reduceEq, List.set_cons_zero, List.set_cons_succ, List.length_cons, List.length_nil, List.length_map, List.map_cons, List.map_nil, List.cons_append, List.nil_append, List.append_nil, List.replicate_succ, List.replicate_zero, List.all_cons, List.all_nil, frzL_nil, frzL_cons, frz_leaf, frz_node, frzL_ints, frzL_st, shr_leaf, shr_node, shr_ints, hide, unhide, List.foldl_cons, List.foldl_nil, gPut_app, fLt_int, fLe_int, fGt_int, fGe_int, fAdd_int, fSub_int, fNeg_int, fAbs_int, fIntC_int, fIntC_bl, fMax2_int, fMin2_int, fMod_int, fDiv_int, fMul_l, fMul_r, pow_10_12, pow_10_15, pow_10_18, pow_10_20, pow_10_30, pow_10_60, pow_2_62, pow_2_63, pow_2_64, fLen_lst, fLen_tup, fEq_int, fNe_int, fEq_bl, fNe_bl, fListOf_ints, fEq_lit, fNe_lit, fIs_non, fIsNot_non, isNon_non, isNon_int, isNon_bl, isNon_str, isNon_node, fIx0, fIx1, fIx2, fIx3, fIx4, fIx5, fIt0, fIt1, fIt2, fIt3, fIt4, fIt5, isi_ii, isi_ib, isi_is, isi_in, isi_il, isi_it, isi_bi, isi_bb, isi_bs, isi_bn, isi_bL, isi_bt, isi_si, isi_sb, isi_ss, isi_sn, isi_sl, isi_st, isi_li, isi_lb, isi_ls, isi_ln, isi_ll, isi_lt, isi_ti, isi_tb, isi_ts, isi_tn, isi_tl, isi_tt, tyD_non, tyD_bl, tyD_int, tyD_str, tyD_lst, tyD_tup, noIns_leaf, noIns_lst, noIns_tup, bl?_bl, Option.bind_some, le_size, lt_size, Bool.not_true, Bool.not_false, Bool.false_eq_true, Bool.true_eq_false, if_true, if_false, true_and, and_true, false_and, and_false, decide_eq_true_eq, Bool.not_eq_true', decide_eq_false_iff_not, decide_true, decide_false, Bool.true_and, Bool.and_true, Bool.false_and, Bool.not_not, Option.some.injEq, and_self, true_or, or_true, false_or, or_false, not_true_eq_false, not_false_eq_true, eq_self, Int.toNat_natCast, Int.zero_add, Int.cast_ofNat_Int, Nat.zero_le, Nat.zero_lt_succ, Nat.reduceAdd, Nat.reduceSub, Nat.reduceLT, Nat.reduceLeDiff, Nat.reduceEqDiff, Int.reduceLT, Int.reduceLE, Int.reduceNeg, Int.reduceToNat, Int.reduceAdd, Int.reduceSub, Int.reduceMul, Int.reduceEq, reduceIte, ci, dm, es, en, dr, r1, r2, r3, r4, sw, et, wt, s1, p1, q1, run_is_int, nw, hw]
      exact ⟨s, _, _, _, _, _, _, rfl⟩
  · rintro r ⟨f, c, d, e, g, h, j, rfl⟩
    have r0 := run_ref0 true b f (-1 - b) (by omega)
    simp only [sat_ret_eq, sat_ok_eq, sat_ex_eq, sat_no_eq, sat_ite_eq, sat_opt_eq, sat_ck_eq, optK_some, optK_none, optK_ite, sat_peek, sat_move, sat_var, varK_leaf, varK_fz, varK_own, varK_shr, moveK_eq, sat_op1, sat_op2, sat_ix, sat_opN, op1K_eq, op2L_eq, opNK_eq, sat_nil, sat_cons, consL_eq, consR_eq, sat_lst, sat_tup, lstK_eq, tupK_eq, sat_sh, shK_eq, sat_test, testK_bl, sat_notT, notK_eq, sat_andT, sat_orT, andK_eq, orK_eq, sat_and, sat_or, sat_not, blK_bl, andDK_eq, orDK_eq, notDK_eq, sat_ifD, ifDK_eq, sat_isi, isiK_eq, sat_chain, chainL_eq, chainM_eq, chainR_eq, sat_sl, slD_eq, slL_eq, slH_eq, sat_part, partK_int, runF_toF, runB_toB, toF_ok, toF_ex, toB_ok, toB_ex, sat_callF, sat_callB, callFK_eq, callBK_eq, sat_callFD, sat_callBD, callFDK_eq, callBDK_eq, sat_seq, seqK_nx, seqK_rt, seqK_bk, seqK_ct, sat_if, ifK_eq, sat_asg, asgK_put, asgK_tup, gasK_nil, gasK_cons, sat_setIx, setL_eq, setR_int, sat_drop, sat_mret, sat_retN, sat_raise, drpK_eq, retK_eq, sat_for, forK_eq, sat_comp, compK_eq, sat_iSeq, sat_iAny, seqSK_lst, seqSK_tup, anySK_str, anySK_lst, anySK_tup, sat_iRg1, rg1K_int, sat_iRg2, rg2L_int, rg2R_int, sat_append, appK, isL, ownL?, sat_extend, extK_own, sat_m1, m1L_str, m1R_eq, sat_aug, augL_int, augR_int, sat_join, joinL_str, joinR_eq, sat_tryAs, sat_try, tryX_eq, tryAsX_eq, sat_lf, lfK_leaf, sat_methK, methK0_eq, methKL_eq, methKR_eq, methKE_eq, isLf_leaf, sat_inO, inOL_eq, inOR_eq, blO_bl, sat_isC, fIsC_ins, fIsC_non, sat_fld, fFld_eq, fldD_eq, sat_setFld, setFldK_eq, putF?_nil, putF?_cons, sat_methB, methBL_eq, methBR_eq, isC_eq, sat_callIo, callIoK_eq, sat_meth, toM_ok, toM_ex, sat_make, makeK_eq, ansK0_rt, ansK0_nx, ansX0_eq, back_ok0, back_ex0, ansK_rt, ansK_nx, ansX_eq, isR_eq, loopOk_nx, loopOk_ct, loopOk_bk, loopOk_rt, slot0, slot0n, slotS, List.mem_cons, List.not_mem_nil, String.reduceEq, List.set_cons_zero, List.set_cons_succ, List.length_cons, List.length_nil, List.length_map, List.map_cons, List.map_nil, List.cons_append, List.nil_append, List.append_nil, List.replicate_succ, List.replicate_zero, List.all_cons, List.all_nil, frzL_nil, frzL_cons, frz_leaf, frz_node, frzL_ints, frzL_st, shr_leaf, shr_node, shr_ints, hide, unhide, List.foldl_cons, List.foldl_nil, gPut_app, fLt_int, fLe_int, fGt_int, fGe_int, fAdd_int, fSub_int, fNeg_int, fAbs_int, fIntC_int, fIntC_bl, fMax2_int, fMin2_int, fMod_int, fDiv_int, fMul_l, fMul_r, pow_10_12, pow_10_15, pow_10_18, pow_10_20, pow_10_30, pow_10_60, pow_2_62, pow_2_63, pow_2_64, fLen_lst, fLen_tup, fEq_int, fNe_int, fEq_bl, fNe_bl, fListOf_ints, fEq_lit, fNe_lit, fIs_non, fIsNot_non, isNon_non, isNon_int, isNon_bl, isNon_str, isNon_node, fIx0, fIx1, fIx2, fIx3, fIx4, fIx5, fIt0, fIt1, fIt2, fIt3, fIt4, fIt5, isi_ii, isi_ib, isi_is, isi_in, isi_il, isi_it, isi_bi, isi_bb, isi_bs, isi_bn, isi_bL, isi_bt, isi_si, isi_sb, isi_ss, isi_sn, isi_sl, isi_st, isi_li, isi_lb, isi_ls, isi_ln, isi_ll, isi_lt, isi_ti, isi_tb, isi_ts, isi_tn, isi_tl, isi_tt, tyD_non, tyD_bl, tyD_int, tyD_str, tyD_lst, tyD_tup, noIns_leaf, noIns_lst, noIns_tup, bl?_bl, Option.bind_some, le_size, lt_size, Bool.not_true, Bool.not_false, Bool.false_eq_true, Bool.true_eq_false, if_true, if_false, true_and, and_true, false_and, and_false, decide_eq_true_eq, Bool.not_eq_true', decide_eq_false_iff_not, decide_true, decide_false, Bool.true_and, Bool.and_true, Bool.false_and, Bool.not_not, Option.some.injEq, and_self, true_or, or_true, false_or, or_false, not_true_eq_false, not_false_eq_true, eq_self, Int.toNat_natCast, Int.zero_add, Int.cast_ofNat_Int, Nat.zero_le, Nat.zero_lt_succ, Nat.reduceAdd, Nat.reduceSub, Nat.reduceLT, Nat.reduceLeDiff, Nat.reduceEqDiff, Int.reduceLT, Int.reduceLE, Int.reduceNeg, Int.reduceToNat, Int.reduceAdd, Int.reduceSub, Int.reduceMul, Int.reduceEq, reduceIte, r0]
end Law

open PySem PySem.W PySem.Calls PyProof.Rows
theorem PySem.Challenge.cw_meridian_k07_clocks_within_bound_holds : PySem.Challenge.rw_meridian_k07_clocks_within_bound.Holds := by
  w_on; o_law
  refine HandSHeadRun.head_any (r := OpenLaw.row PySem.Challenge.rw_meridian_k07_clocks_within_bound) (q := view (OpenLaw.row PySem.Challenge.rw_meridian_k07_clocks_within_bound).prog [14]) (H := Law.hk) (ob := Law.ob) (M := 6000) (loose := Law.loose) (d := HandSHeadRun.topDef (OpenLaw.row PySem.Challenge.rw_meridian_k07_clocks_within_bound).prog 14) (kwd := []) Law.ob_eq
    (by kernel_rfl) (fun s => by kernel_rfl) Law.run (by kernel_rfl) (by kernel_rfl) (by kernel_rfl) (by rfl) (by first | assumption | decide +kernel) (by decide +kernel) ⟨rfl, rfl, rfl, rfl, rfl, by decide +kernel⟩ ?hw ?hc
  case hw => w_witness2
  case hc =>
    refine VL.walk_law (l := PySem.Challenge.rw_meridian_k07_clocks_within_bound) (n := 63) (k := 6) (x := "_law_script") (m := Law.m_law) rfl (by decide) (by kernel_rfl) ⟨rfl, by decide, by decide⟩ (fun ns hl => Law.law_true ns hl) ?F
    intro w mg fa h Y G hmg0
    obtain ⟨K, KX, c⟩ := Y
    have t := Law.txt_of KX G c
    have hmg : mg ("law" : PySem.Str) = some (.ref fa) := by
      have e : (HandSHeadRun.topDef (OpenLaw.row PySem.Challenge.rw_meridian_k07_clocks_within_bound).prog 14).name = ("law" : PySem.Str) := by kernel_rfl
      rw [← e]
      exact hmg0
    have e := hmg.symm.trans t.g_law
    cases e
    obtain ⟨fd, F⟩ := t.d_law
    have b := L2.FunD.bindsA (ps := ["_law_script"]) F fun _ _ _ _ _ _ us hl => match us, hl with | [_], _ => rfl
    exact ⟨K, VL.clT Law.cs K, fd, KX, fun s v => b s [v] rfl, fun base _ _ => Law.ok_law t F⟩

