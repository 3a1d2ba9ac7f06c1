import PyProof.Rows.All
import Wide.All
import OpenK.AllK
import Wide.FinOn
import HandS.ForMost
import HandS.ForExc
import HandS.Lambda
import HandS.CallSlots
import HandS.Text
import HandS.IsInst
import HandS.ExcIs
import HandS.Wide
import HandS.SortInts
import HandS.Head0
import HandS.Head1
import HandS.Head2
import HandS.HeadEnd
import HandS.HeadHook1
import HandS.HeadHook2
import HandS.HeadHook3
import HandS.HeadHook4
import HandS.Defaults
import HandS.Deep
import HandS.Iter
import PyProof.Rows.StrMeet
import PyProof.Rows.TmSorted
import HandS.Replace
import HandS.Codes
import OpenK.KOps
import OpenK.KMeth
import HandS.EndBits
import HandS.DictComp
import HandS.Style
import PyProof.StrBlock2
import HandS.SortRule
import HandS.Property
import HandS.TupSets
import HandS.Conv
import KE.DataCmp
import KE.SortData
import HandS.TupLe
import HandS.More
import HandS.SetKeys
import PyProof.Rows.StrFromFirst
import HandS.NoneIn
import HandS.DictTup
import HandS.TupLen
import KE.KDictSum
import PyProof.DictMoreH
import HandS.Set
import HandS.SetFor
import HandS.SetTxt0
import HandS.Strs
import HandS.SetBool
import HandS.Comp
import HandS.JoinGen
import KE.KAssignIn
import HandS.ClsMeth
import HandS.HeadNt
import HandS.TryMany
import HandS.WordsDict
import HandS.IterVal
import HandS.OwnIter
import KE.SortKeyHeap
import HandS.EndTab
import HandS.Zip
import HandS.CallLocal
import PySem.Challenge.RW_meridian_k17_network_as_a_list
set_option Elab.async false
set_option linter.all false
set_option maxRecDepth 100000
set_option maxHeartbeats 4000000
/-! VL1: data, and how a heap bears it. -/
namespace VL
open PySem PySem.Spec L2

/-- a plain value -/
inductive Sc where
  | non | bl (b : Bool) | int (i : Int) | str (x : Str)
  deriving DecidableEq
/-- the kind of a node -/
inductive Kn where
  | lst | tup | dic (ks : List Key) | dit (ks : List (List Key)) | ins (c : String) (fs : List String)
  deriving DecidableEq
/-- data; the flag: true, owned (may be changed in place); false, frozen (may be shared) -/
inductive D where
  | leaf (s : Sc)
  | node (o : Bool) (k : Kn) (ds : List D)

abbrev D.int (i : Int) : D := .leaf (.int i)
abbrev D.bl (b : Bool) : D := .leaf (.bl b)
abbrev D.str (x : Str) : D := .leaf (.str x)
abbrev D.non : D := .leaf .non
abbrev D.lst (o : Bool) (ds : List D) : D := .node o .lst ds
abbrev D.tup (o : Bool) (ds : List D) : D := .node o .tup ds

mutual
def D.frz : D → D
  | .leaf s => .leaf s
  | .node _ k ds => .node false k (D.frzL ds)
def D.frzL : List D → List D
  | [] => []
  | d :: ds => d.frz :: D.frzL ds
end
theorem frzL_map (ds : List D) : D.frzL ds = ds.map D.frz := by
  induction ds with
  | nil => rfl
  | cons d r ih => simp [D.frzL, ih]
/-- may be shared as it stands -/
def D.shr : D → Bool
  | .leaf _ => true
  | .node o _ _ => !o

/-- may stand in a key -/
def D.keyLf : D → Bool
  | .leaf _ => true
  | _ => false
def keyD : Key → D
  | .inl i => .int i
  | .inr x => .str x
/-- a tuple that may be a dict's key -/
def ktD (ks : List Key) : D := .node false .tup (ks.map keyD)
def ScV : Sc → V → Prop
  | .non, v => v = .non
  | .bl b, v => v = .bl b
  | .int i, v => v = .int i
  | .str x, v => v = .str x

def Kn.fits : Kn → Nat → Prop
  | .lst, _ => True
  | .tup, _ => True
  | .dic ks, n => ks.length = n
  | .dit ks, n => ks.length = n
  | .ins _ fs, n => fs.length = n
/-- a kind that is no tuple fits -/
def Kn.fitsW : Kn → Nat → Prop
  | .lst, _ => True
  | .tup, _ => False
  | .dic ks, n => ks.length = n
  | .dit ks, n => ks.length = n
  | .ins _ fs, n => fs.length = n
def objOf (C dx : Addr) : Kn → List V → HO
  | .lst, vs => .lst vs
  | .tup, vs => .tup vs
  | .dic ks, vs => .dK (ks.zip vs)
  | .dit ks, vs => .dT (ks.zip vs)
  | .ins _ fs, vs => .ins C dx ((fs.map fun x => Str.ofString x).zip vs)
def Kn.insOk (T : String → Option Addr) (C : Addr) (H : Hp) (a dx : Addr) : Kn → Prop
  | .ins c _ => T c = some C ∧ H dx = some (.own a) ∧ dx ≠ a
  | _ => dx = a
/-- a tuple that may be a dict's key -/
def ScAll (vs : List V) : Prop := ∀ v ∈ vs, ∃ s, ScV s v
def KT (o : HO) : Prop := ∃ vs, o = .tup vs ∧ ScAll vs
/-- an owned tuple is no key -/
def Kn.noKey : Kn → List V → Prop
  | .tup, vs => ¬ ScAll vs
  | _, _ => True
theorem Kn.fitsW.fits {k : Kn} {n : Nat} (h : k.fitsW n) : k.fits n := by cases k <;> first | exact h | exact trivial
theorem Kn.fitsW.noKey {k : Kn} {n : Nat} {vs : List V} (h : k.fitsW n) : k.noKey vs := by cases k <;> first | exact h.elim | exact trivial
/-- an owned node -/
def NodeW (T : String → Option Addr) (H : Hp) (a dx : Addr) (k : Kn) (vs : List V) : Prop :=
  (k.fits vs.length ∧ k.noKey vs) ∧ ∃ C, H a = some (objOf C dx k vs) ∧ k.insOk T C H a dx
/-- a node that is read -/
def NodeF (K : PySem.W.Frag) (T : String → Option Addr) (F : Hp) (a : Addr) (k : Kn) (vs : List V) : Prop :=
  k.fits vs.length ∧ match k with
    | .lst => SqL K F a vs
    | .tup => F a = some (.tup vs)
    | .dic ks => Rd F a (.dK (ks.zip vs))
    | .dit ks => Rd F a (.dT (ks.zip vs))
    | .ins c fs => ∃ C dx, T c = some C ∧ F a = some (.ins C dx ((fs.map fun x => Str.ofString x).zip vs)) ∧ F dx = some (.own a)

section
variable {K : PySem.W.Frag} {T : String → Option Addr} {F F' H H' : Hp} {a dx : Addr} {k : Kn} {vs : List V}
theorem Rd.mono {u : HO} (s : Same F F') (h : Rd F a u) : Rd F' a u := by
  rcases h with h | ⟨o, h⟩
  · exact .inl (s _ _ h)
  · exact .inr ⟨o, s _ _ h⟩
theorem SqT.mono (s : Same F F') (h : SqT K F a vs) : SqT K F' a vs := by
  rcases h with h | h
  · exact .inl (Rd.mono s h)
  · exact .inr h
theorem NodeF.mono (s : Same F F') (h : NodeF K T F a k vs) : NodeF K T F' a k vs := by
  obtain ⟨h1, h2⟩ := h
  refine ⟨h1, ?_⟩
  cases k with
  | lst => exact s.seq h2
  | tup => exact s _ _ h2
  | dic ks => exact Rd.mono s h2
  | dit ks => exact Rd.mono s h2
  | ins c fs =>
    obtain ⟨C, dx, e1, e2, e3⟩ := h2
    exact ⟨C, dx, e1, s _ _ e2, s _ _ e3⟩
theorem NodeW.toF (h : NodeW T H a dx k vs) : NodeF K T H a k vs := by
  obtain ⟨h1, C, h2, h3⟩ := h
  refine ⟨h1.1, ?_⟩
  cases k with
  | lst => exact .inl (.inl h2)
  | tup => exact h2
  | dic ks => exact .inl h2
  | dit ks => exact .inl h2
  | ins c fs => exact ⟨C, dx, h3.1, h2, h3.2.1⟩
theorem NodeW.same (h : NodeW T H a dx k vs) (ha : H' a = H a) (hd : H' dx = H dx) : NodeW T H' a dx k vs := by
  obtain ⟨h1, C, h2, h3⟩ := h
  refine ⟨h1, C, by rw [ha]; exact h2, ?_⟩
  cases k with
  | ins c fs => exact ⟨h3.1, by rw [hd]; exact h3.2.1, h3.2.2⟩
  | _ => exact h3
theorem scAll_keys (ks : List Key) : ScAll (ks.map kV) := fun v hv => by
  obtain ⟨k, _, rfl⟩ := List.mem_map.mp hv
  cases k with
  | inl i => exact ⟨.int i, rfl⟩
  | inr x => exact ⟨.str x, rfl⟩
theorem kt_keys (ks : List Key) : KT (.tup (ks.map kV)) := ⟨_, rfl, scAll_keys ks⟩
theorem NodeF.sqT {K : PySem.W.Frag} {T : String → Option Addr} {F : Hp} {a : Addr} {vs : List V} (h : NodeF K T F a .tup vs) : SqT K F a vs := .inl (.inl h.2)
theorem NodeW.noKT (h : NodeW T H a dx k vs) {o : HO} (e : H a = some o ∨ H dx = some o) : ¬ KT o := by
  obtain ⟨h1, C, h2, h3⟩ := h
  rintro ⟨ws, rfl, hw⟩
  cases k with
  | lst => have h3 : dx = a := h3; rw [h3, or_self, h2] at e; injection e with e; injection e
  | tup => have h3 : dx = a := h3; rw [h3, or_self, h2] at e; injection e with e; injection e with e; rw [← e] at hw; exact h1.2 hw
  | dic l => have h3 : dx = a := h3; rw [h3, or_self, h2] at e; injection e with e; injection e
  | dit l => have h3 : dx = a := h3; rw [h3, or_self, h2] at e; injection e with e; injection e
  | ins c fs =>
    rcases e with e | e
    · rw [h2] at e; injection e with e; injection e
    · rw [h3.2.1] at e; injection e with e; injection e
theorem NodeW.here (h : NodeW T H a dx k vs) : ∃ o, H a = some o := let ⟨_, _, e, _⟩ := h; ⟨_, e⟩
theorem NodeW.hereD (h : NodeW T H a dx k vs) : ∃ o, H dx = some o := by
  obtain ⟨_, C, e, z⟩ := h
  cases k with
  | ins c fs => exact ⟨_, z.2.1⟩
  | _ => have z' : dx = a := z; rw [z']; exact ⟨_, e⟩
end

/-- no table, no code object -/
def PlainO : HO → Prop
  | .tbl _ => False
  | .ext _ => False
  | _ => True
theorem plain_objOf {C dx : Addr} {k : Kn} {vs : List V} : PlainO (objOf C dx k vs) := by cases k <;> trivial
theorem NodeW.plain {T : String → Option Addr} {H : Hp} {a dx : Addr} {k : Kn} {vs : List V} (h : NodeW T H a dx k vs) {o : HO} (e : H a = some o ∨ H dx = some o) : PlainO o := by
  obtain ⟨h1, C, h2, h3⟩ := h
  cases k with
  | ins c fs =>
    rcases e with e | e
    · rw [h2] at e; cases e; trivial
    · rw [h3.2.1] at e; cases e; trivial
  | _ =>
    have h3 : dx = a := h3
    rw [h3, or_self, h2] at e
    cases e; trivial

abbrev Ft := Addr → Prop
def Emp (P : Ft) : Prop := ∀ a, ¬ P a
def Dj (P Q : Ft) : Prop := ∀ a, P a → Q a → False
def Uni (P A B : Ft) : Prop := ∀ a, P a ↔ A a ∨ B a
theorem Dj.symm {P Q : Ft} (h : Dj P Q) : Dj Q P := fun a x y => h a y x

section
variable (K : PySem.W.Frag) (T : String → Option Addr)
mutual
/-- frozen data: F bears it -/
inductive Fz (F : Hp) : D → V → Prop
  | leaf {s : Sc} {v : V} : ScV s v → Fz F (.leaf s) v
  | node {a : Addr} {k : Kn} {vs : List V} {ds : List D} : NodeF K T F a k vs → FzL F ds vs → Fz F (.node false k ds) (.ref a)
inductive FzL (F : Hp) : List D → List V → Prop
  | nil : FzL F [] []
  | cons {d : D} {v : V} {ds : List D} {vs : List V} : Fz F d v → FzL F ds vs → FzL F (d :: ds) (v :: vs)
end
mutual
/-- data: its owned part stands in H at the addresses P, its frozen part is borne by F -/
inductive Ow (F H : Hp) : D → V → Ft → Prop
  | leaf {s : Sc} {v : V} {P : Ft} : ScV s v → Emp P → Ow F H (.leaf s) v P
  | fz {k : Kn} {ds : List D} {v : V} {P : Ft} : Fz K T F (.node false k ds) v → Emp P → Ow F H (.node false k ds) v P
  | own {a dx : Addr} {k : Kn} {vs : List V} {ds : List D} {P P0 : Ft} : NodeW T H a dx k vs → OwL F H ds vs P0 → ¬ P0 a → ¬ P0 dx → F a = none → F dx = none → (∀ b, P b ↔ (b = a ∨ b = dx) ∨ P0 b) → Ow F H (.node true k ds) (.ref a) P
inductive OwL (F H : Hp) : List D → List V → Ft → Prop
  | nil {P : Ft} : Emp P → OwL F H [] [] P
  | cons {d : D} {v : V} {ds : List D} {vs : List V} {P P1 P2 : Ft} : Ow F H d v P1 → OwL F H ds vs P2 → Dj P1 P2 → Uni P P1 P2 → OwL F H (d :: ds) (v :: vs) P
end
end

section
variable {K : PySem.W.Frag} {T : String → Option Addr} {F F' H H' : Hp}
theorem Fz.mono_both (s : Same F F') : (∀ d v, Fz K T F d v → Fz K T F' d v) ∧ ∀ ds vs, FzL K T F ds vs → FzL K T F' ds vs := by
  constructor
  · intro d v h
    refine Fz.rec (motive_1 := fun d v _ => Fz K T F' d v) (motive_2 := fun ds vs _ => FzL K T F' ds vs) ?_ ?_ ?_ ?_ h
    · intro s v h1; exact .leaf h1
    · intro a k vs ds h1 _ h2; exact .node (h1.mono s) h2
    · exact .nil
    · intro d v ds vs _ _ h1 h2; exact .cons h1 h2
  · intro d v h
    refine FzL.rec (motive_1 := fun d v _ => Fz K T F' d v) (motive_2 := fun ds vs _ => FzL K T F' ds vs) ?_ ?_ ?_ ?_ h
    · intro s v h1; exact .leaf h1
    · intro a k vs ds h1 _ h2; exact .node (h1.mono s) h2
    · exact .nil
    · intro d v ds vs _ _ h1 h2; exact .cons h1 h2
theorem Fz.mono {d : D} {v : V} (s : Same F F') (h : Fz K T F d v) : Fz K T F' d v := (Fz.mono_both s).1 _ _ h
theorem FzL.mono {ds : List D} {vs : List V} (s : Same F F') (h : FzL K T F ds vs) : FzL K T F' ds vs := (Fz.mono_both s).2 _ _ h
theorem FzL.length {ds : List D} {vs : List V} (h : FzL K T F ds vs) : ds.length = vs.length := by
  induction ds generalizing vs with
  | nil => cases h; rfl
  | cons d r ih => cases h with | cons _ h2 => simp [ih h2]
theorem FzL.get {ds : List D} {vs : List V} (h : FzL K T F ds vs) {n : Nat} {d : D} (e : ds[n]? = some d) : ∃ v, vs[n]? = some v ∧ Fz K T F d v := by
  induction ds generalizing vs n with
  | nil => simp at e
  | cons d' r ih =>
    cases h with
    | cons h1 h2 =>
      cases n with
      | zero => simp at e; subst e; exact ⟨_, rfl, h1⟩
      | succ n => simpa using ih h2 (by simpa using e)

theorem Ow.frame_both (s : Same F F') : (∀ d v P, Ow K T F H d v P → (∀ a, P a → H' a = H a) → (∀ a, P a → F' a = none) → Ow K T F' H' d v P) ∧
    ∀ ds vs P, OwL K T F H ds vs P → (∀ a, P a → H' a = H a) → (∀ a, P a → F' a = none) → OwL K T F' H' ds vs P := by
  have m1 : ∀ {s : Sc} {v : V} {P : Ft}, ScV s v → Emp P → (∀ a, P a → H' a = H a) → (∀ a, P a → F' a = none) → Ow K T F' H' (.leaf s) v P := fun h1 h2 _ _ => .leaf h1 h2
  have m2 : ∀ {k : Kn} {ds : List D} {v : V} {P : Ft}, Fz K T F (.node false k ds) v → Emp P → (∀ a, P a → H' a = H a) → (∀ a, P a → F' a = none) → Ow K T F' H' (.node false k ds) v P := fun h1 h2 _ _ => .fz (h1.mono s) h2
  have m3 : ∀ {a dx : Addr} {k : Kn} {vs : List V} {ds : List D} {P P0 : Ft}, NodeW T H a dx k vs → OwL K T F H ds vs P0 → ¬ P0 a → ¬ P0 dx → F a = none → F dx = none → (∀ b, P b ↔ (b = a ∨ b = dx) ∨ P0 b) →
      ((∀ a, P0 a → H' a = H a) → (∀ a, P0 a → F' a = none) → OwL K T F' H' ds vs P0) → (∀ a, P a → H' a = H a) → (∀ a, P a → F' a = none) → Ow K T F' H' (.node true k ds) (.ref a) P := by
    intro a dx k vs ds P P0 h1 _ h3 h4 _ _ h5 ih hk hf
    have pa : P a := (h5 a).mpr (.inl (.inl rfl))
    have pd : P dx := (h5 dx).mpr (.inl (.inr rfl))
    exact .own (h1.same (hk _ pa) (hk _ pd)) (ih (fun b hb => hk b ((h5 b).mpr (.inr hb))) fun b hb => hf b ((h5 b).mpr (.inr hb))) h3 h4 (hf _ pa) (hf _ pd) h5
  have m4 : ∀ {P : Ft}, Emp P → (∀ a, P a → H' a = H a) → (∀ a, P a → F' a = none) → OwL K T F' H' [] [] P := fun h _ _ => .nil h
  have m5 : ∀ {d : D} {v : V} {ds : List D} {vs : List V} {P P1 P2 : Ft}, Ow K T F H d v P1 → OwL K T F H ds vs P2 → Dj P1 P2 → Uni P P1 P2 →
      ((∀ a, P1 a → H' a = H a) → (∀ a, P1 a → F' a = none) → Ow K T F' H' d v P1) → ((∀ a, P2 a → H' a = H a) → (∀ a, P2 a → F' a = none) → OwL K T F' H' ds vs P2) →
      (∀ a, P a → H' a = H a) → (∀ a, P a → F' a = none) → OwL K T F' H' (d :: ds) (v :: vs) P := by
    intro d v ds vs P P1 P2 _ _ dj un i1 i2 hk hf
    exact .cons (i1 (fun b hb => hk b ((un b).mpr (.inl hb))) fun b hb => hf b ((un b).mpr (.inl hb))) (i2 (fun b hb => hk b ((un b).mpr (.inr hb))) fun b hb => hf b ((un b).mpr (.inr hb))) dj un
  constructor
  · intro d v P h
    exact Ow.rec (motive_1 := fun d v P _ => (∀ a, P a → H' a = H a) → (∀ a, P a → F' a = none) → Ow K T F' H' d v P) (motive_2 := fun ds vs P _ => (∀ a, P a → H' a = H a) → (∀ a, P a → F' a = none) → OwL K T F' H' ds vs P)
      m1 m2 m3 m4 m5 h
  · intro d v P h
    exact OwL.rec (motive_1 := fun d v P _ => (∀ a, P a → H' a = H a) → (∀ a, P a → F' a = none) → Ow K T F' H' d v P) (motive_2 := fun ds vs P _ => (∀ a, P a → H' a = H a) → (∀ a, P a → F' a = none) → OwL K T F' H' ds vs P)
      m1 m2 m3 m4 m5 h
theorem Ow.frame {d : D} {v : V} {P : Ft} (h : Ow K T F H d v P) (s : Same F F') (hk : ∀ a, P a → H' a = H a) (hf : ∀ a, P a → F' a = none) : Ow K T F' H' d v P := (Ow.frame_both s).1 _ _ _ h hk hf
theorem OwL.frame {ds : List D} {vs : List V} {P : Ft} (h : OwL K T F H ds vs P) (s : Same F F') (hk : ∀ a, P a → H' a = H a) (hf : ∀ a, P a → F' a = none) : OwL K T F' H' ds vs P := (Ow.frame_both s).2 _ _ _ h hk hf

theorem Ow.fz_emp {d : D} {v : V} {P : Ft} (h : Fz K T F d v) (e : Emp P) : Ow K T F H d v P := by
  cases h with
  | leaf h => exact .leaf h e
  | node h1 h2 => exact .fz (.node h1 h2) e
/-- where the footprint stands -/
theorem Ow.at_both : (∀ d v P, Ow K T F H d v P → ∀ a, P a → F a = none ∧ ∃ o, H a = some o) ∧ ∀ ds vs P, OwL K T F H ds vs P → ∀ a, P a → F a = none ∧ ∃ o, H a = some o := by
  have m3 : ∀ {a dx : Addr} {k : Kn} {vs : List V} {ds : List D} {P P0 : Ft}, NodeW T H a dx k vs → OwL K T F H ds vs P0 → ¬ P0 a → ¬ P0 dx → F a = none → F dx = none → (∀ b, P b ↔ (b = a ∨ b = dx) ∨ P0 b) →
      (∀ a, P0 a → F a = none ∧ ∃ o, H a = some o) → ∀ a, P a → F a = none ∧ ∃ o, H a = some o := by
    intro a dx k vs ds P P0 h1 _ _ _ f1 f2 h5 ih b hb
    rcases (h5 b).mp hb with (rfl | rfl) | hb
    · exact ⟨f1, h1.here⟩
    · exact ⟨f2, h1.hereD⟩
    · exact ih b hb
  have m5 : ∀ {d : D} {v : V} {ds : List D} {vs : List V} {P P1 P2 : Ft}, Ow K T F H d v P1 → OwL K T F H ds vs P2 → Dj P1 P2 → Uni P P1 P2 →
      (∀ a, P1 a → F a = none ∧ ∃ o, H a = some o) → (∀ a, P2 a → F a = none ∧ ∃ o, H a = some o) → ∀ a, P a → F a = none ∧ ∃ o, H a = some o := by
    intro d v ds vs P P1 P2 _ _ _ un i1 i2 b hb
    rcases (un b).mp hb with hb | hb
    · exact i1 b hb
    · exact i2 b hb
  constructor
  · intro d v P h
    exact Ow.rec (motive_1 := fun d v P _ => ∀ a, P a → F a = none ∧ ∃ o, H a = some o) (motive_2 := fun ds vs P _ => ∀ a, P a → F a = none ∧ ∃ o, H a = some o)
      (fun _ e a p => (e a p).elim) (fun _ e a p => (e a p).elim) m3 (fun e a p => (e a p).elim) m5 h
  · intro d v P h
    exact OwL.rec (motive_1 := fun d v P _ => ∀ a, P a → F a = none ∧ ∃ o, H a = some o) (motive_2 := fun ds vs P _ => ∀ a, P a → F a = none ∧ ∃ o, H a = some o)
      (fun _ e a p => (e a p).elim) (fun _ e a p => (e a p).elim) m3 (fun e a p => (e a p).elim) m5 h
theorem Ow.at {d : D} {v : V} {P : Ft} (h : Ow K T F H d v P) {a : Addr} (p : P a) : F a = none ∧ ∃ o, H a = some o := Ow.at_both.1 _ _ _ h a p
theorem OwL.at {ds : List D} {vs : List V} {P : Ft} (h : OwL K T F H ds vs P) {a : Addr} (p : P a) : F a = none ∧ ∃ o, H a = some o := Ow.at_both.2 _ _ _ h a p
/-- no key stands in the footprint -/
theorem Ow.noKT_both : (∀ d v P, Ow K T F H d v P → ∀ a o, P a → H a = some o → ¬ KT o) ∧ ∀ ds vs P, OwL K T F H ds vs P → ∀ a o, P a → H a = some o → ¬ KT o := by
  have m3 : ∀ {a dx : Addr} {k : Kn} {vs : List V} {ds : List D} {P P0 : Ft}, NodeW T H a dx k vs → OwL K T F H ds vs P0 → ¬ P0 a → ¬ P0 dx → F a = none → F dx = none → (∀ b, P b ↔ (b = a ∨ b = dx) ∨ P0 b) →
      (∀ a o, P0 a → H a = some o → ¬ KT o) → ∀ a o, P a → H a = some o → ¬ KT o := by
    intro a dx k vs ds P P0 h1 _ _ _ _ _ h5 ih b o hb e
    rcases (h5 b).mp hb with (rfl | rfl) | hb
    · exact h1.noKT (.inl e)
    · exact h1.noKT (.inr e)
    · exact ih b o hb e
  have m5 : ∀ {d : D} {v : V} {ds : List D} {vs : List V} {P P1 P2 : Ft}, Ow K T F H d v P1 → OwL K T F H ds vs P2 → Dj P1 P2 → Uni P P1 P2 →
      (∀ a o, P1 a → H a = some o → ¬ KT o) → (∀ a o, P2 a → H a = some o → ¬ KT o) → ∀ a o, P a → H a = some o → ¬ KT o := by
    intro d v ds vs P P1 P2 _ _ _ un i1 i2 b o hb
    rcases (un b).mp hb with hb | hb
    · exact i1 b o hb
    · exact i2 b o hb
  constructor
  · intro d v P h
    exact Ow.rec (motive_1 := fun d v P _ => ∀ a o, P a → H a = some o → ¬ KT o) (motive_2 := fun ds vs P _ => ∀ a o, P a → H a = some o → ¬ KT o)
      (fun _ e a _ p => (e a p).elim) (fun _ e a _ p => (e a p).elim) m3 (fun e a _ p => (e a p).elim) m5 h
  · intro d v P h
    exact OwL.rec (motive_1 := fun d v P _ => ∀ a o, P a → H a = some o → ¬ KT o) (motive_2 := fun ds vs P _ => ∀ a o, P a → H a = some o → ¬ KT o)
      (fun _ e a _ p => (e a p).elim) (fun _ e a _ p => (e a p).elim) m3 (fun e a _ p => (e a p).elim) m5 h
theorem Ow.noKV {d : D} {v : V} {P : Ft} (h : Ow K T F H d v P) (e : d.keyLf = false) (s : Sc) : ¬ ScV s v := by
  have : ∀ a : Addr, ¬ ScV s (.ref a) := fun a z => by cases s <;> exact nomatch z
  cases h with
  | leaf => cases e
  | fz h1 _ => cases h1; exact this _
  | own => exact this _
theorem OwL.noKey {ds : List D} {vs : List V} {P : Ft} (h : OwL K T F H ds vs P) (e : ds.all D.keyLf = false) : ¬ ScAll vs := by
  induction ds generalizing vs P with
  | nil => cases e
  | cons d ds ih =>
    cases h with
    | cons h1 h2 _ _ =>
      intro z
      rw [List.all_cons, Bool.and_eq_false_iff] at e
      rcases e with e | e
      · obtain ⟨s, hs⟩ := z _ List.mem_cons_self
        exact h1.noKV e s hs
      · exact ih h2 e fun v hv => z v (List.mem_cons_of_mem _ hv)
/-- no table and no code object stands in the footprint -/
theorem Ow.plain_both : (∀ d v P, Ow K T F H d v P → ∀ a o, P a → H a = some o → PlainO o) ∧ ∀ ds vs P, OwL K T F H ds vs P → ∀ a o, P a → H a = some o → PlainO o := by
  have m3 : ∀ {a dx : Addr} {k : Kn} {vs : List V} {ds : List D} {P P0 : Ft}, NodeW T H a dx k vs → OwL K T F H ds vs P0 → ¬ P0 a → ¬ P0 dx → F a = none → F dx = none → (∀ b, P b ↔ (b = a ∨ b = dx) ∨ P0 b) →
      (∀ a o, P0 a → H a = some o → PlainO o) → ∀ a o, P a → H a = some o → PlainO o := by
    intro a dx k vs ds P P0 h1 _ _ _ _ _ h5 ih b o hb e
    rcases (h5 b).mp hb with (rfl | rfl) | hb
    · exact h1.plain (.inl e)
    · exact h1.plain (.inr e)
    · exact ih b o hb e
  have m5 : ∀ {d : D} {v : V} {ds : List D} {vs : List V} {P P1 P2 : Ft}, Ow K T F H d v P1 → OwL K T F H ds vs P2 → Dj P1 P2 → Uni P P1 P2 →
      (∀ a o, P1 a → H a = some o → PlainO o) → (∀ a o, P2 a → H a = some o → PlainO o) → ∀ a o, P a → H a = some o → PlainO o := by
    intro d v ds vs P P1 P2 _ _ _ un i1 i2 b o hb
    rcases (un b).mp hb with hb | hb
    · exact i1 b o hb
    · exact i2 b o hb
  constructor
  · intro d v P h
    exact Ow.rec (motive_1 := fun d v P _ => ∀ a o, P a → H a = some o → PlainO o) (motive_2 := fun ds vs P _ => ∀ a o, P a → H a = some o → PlainO o)
      (fun _ e a _ p => (e a p).elim) (fun _ e a _ p => (e a p).elim) m3 (fun e a _ p => (e a p).elim) m5 h
  · intro d v P h
    exact OwL.rec (motive_1 := fun d v P _ => ∀ a o, P a → H a = some o → PlainO o) (motive_2 := fun ds vs P _ => ∀ a o, P a → H a = some o → PlainO o)
      (fun _ e a _ p => (e a p).elim) (fun _ e a _ p => (e a p).elim) m3 (fun e a _ p => (e a p).elim) m5 h
theorem OwL.plain {ds : List D} {vs : List V} {P : Ft} (h : OwL K T F H ds vs P) {a : Addr} {o : HO} (p : P a) (e : H a = some o) : PlainO o := Ow.plain_both.2 _ _ _ h a o p e
theorem OwL.noKT {ds : List D} {vs : List V} {P : Ft} (h : OwL K T F H ds vs P) {a : Addr} {o : HO} (p : P a) (e : H a = some o) : ¬ KT o := Ow.noKT_both.2 _ _ _ h a o p e
theorem Ow.noKT {d : D} {v : V} {P : Ft} (h : Ow K T F H d v P) {a : Addr} {o : HO} (p : P a) (e : H a = some o) : ¬ KT o := Ow.noKT_both.1 _ _ _ h a o p e
theorem OwL.length {ds : List D} {vs : List V} {P : Ft} (h : OwL K T F H ds vs P) : ds.length = vs.length := by
  induction ds generalizing vs P with
  | nil => cases h; rfl
  | cons d r ih => cases h with | cons _ h2 => simp [ih h2]

mutual
theorem frz_frz : ∀ d : D, d.frz.frz = d.frz
  | .leaf _ => rfl
  | .node o k ds => by simp only [D.frz]; rw [frzL_frzL ds]
theorem frzL_frzL : ∀ ds : List D, D.frzL (D.frzL ds) = D.frzL ds
  | [] => rfl
  | d :: ds => by simp only [D.frzL]; rw [frz_frz d, frzL_frzL ds]
end
/-- frozen data is its own freezing -/
theorem Fz.frz_both : (∀ d v, Fz K T F d v → d.frz = d) ∧ ∀ ds vs, FzL K T F ds vs → D.frzL ds = ds := by
  constructor
  · intro d v h
    exact Fz.rec (motive_1 := fun d v _ => d.frz = d) (motive_2 := fun ds vs _ => D.frzL ds = ds) (fun _ => rfl) (fun _ _ e => by simp only [D.frz]; rw [e]) rfl (fun _ _ e1 e2 => by simp only [D.frzL]; rw [e1, e2]) h
  · intro d v h
    exact FzL.rec (motive_1 := fun d v _ => d.frz = d) (motive_2 := fun ds vs _ => D.frzL ds = ds) (fun _ => rfl) (fun _ _ e => by simp only [D.frz]; rw [e]) rfl (fun _ _ e1 e2 => by simp only [D.frzL]; rw [e1, e2]) h
theorem Fz.frz {d : D} {v : V} (h : Fz K T F d v) : d.frz = d := Fz.frz_both.1 _ _ h

/-- freezing: every larger F that bears the footprint -/
theorem Ow.freeze_both (s : Same F F') : (∀ d v P, Ow K T F H d v P → (∀ a, P a → F' a = H a) → Fz K T F' d.frz v) ∧ ∀ ds vs P, OwL K T F H ds vs P → (∀ a, P a → F' a = H a) → FzL K T F' (D.frzL ds) vs := by
  have m2 : ∀ {k : Kn} {ds : List D} {v : V} {P : Ft}, Fz K T F (.node false k ds) v → Emp P → (∀ a, P a → F' a = H a) → Fz K T F' (D.frz (.node false k ds)) v := by
    intro k ds v P h _ _
    rw [h.frz]; exact h.mono s
  have m3 : ∀ {a dx : Addr} {k : Kn} {vs : List V} {ds : List D} {P P0 : Ft}, NodeW T H a dx k vs → OwL K T F H ds vs P0 → ¬ P0 a → ¬ P0 dx → F a = none → F dx = none → (∀ b, P b ↔ (b = a ∨ b = dx) ∨ P0 b) →
      ((∀ a, P0 a → F' a = H a) → FzL K T F' (D.frzL ds) vs) → (∀ a, P a → F' a = H a) → Fz K T F' (D.frz (.node true k ds)) (.ref a) := by
    intro a dx k vs ds P P0 h1 _ _ _ _ _ h5 ih hk
    exact .node (h1.same (hk _ ((h5 a).mpr (.inl (.inl rfl)))) (hk _ ((h5 dx).mpr (.inl (.inr rfl))))).toF (ih fun b hb => hk b ((h5 b).mpr (.inr hb)))
  have m5 : ∀ {d : D} {v : V} {ds : List D} {vs : List V} {P P1 P2 : Ft}, Ow K T F H d v P1 → OwL K T F H ds vs P2 → Dj P1 P2 → Uni P P1 P2 →
      ((∀ a, P1 a → F' a = H a) → Fz K T F' d.frz v) → ((∀ a, P2 a → F' a = H a) → FzL K T F' (D.frzL ds) vs) → (∀ a, P a → F' a = H a) → FzL K T F' (D.frzL (d :: ds)) (v :: vs) := by
    intro d v ds vs P P1 P2 _ _ _ un i1 i2 hk
    exact .cons (i1 fun b hb => hk b ((un b).mpr (.inl hb))) (i2 fun b hb => hk b ((un b).mpr (.inr hb)))
  constructor
  · intro d v P h
    exact Ow.rec (motive_1 := fun d v P _ => (∀ a, P a → F' a = H a) → Fz K T F' d.frz v) (motive_2 := fun ds vs P _ => (∀ a, P a → F' a = H a) → FzL K T F' (D.frzL ds) vs)
      (fun h _ _ => .leaf h) m2 m3 (fun _ _ => .nil) m5 h
  · intro d v P h
    exact OwL.rec (motive_1 := fun d v P _ => (∀ a, P a → F' a = H a) → Fz K T F' d.frz v) (motive_2 := fun ds vs P _ => (∀ a, P a → F' a = H a) → FzL K T F' (D.frzL ds) vs)
      (fun h _ _ => .leaf h) m2 m3 (fun _ _ => .nil) m5 h
theorem Ow.freeze {d : D} {v : V} {P : Ft} (h : Ow K T F H d v P) (s : Same F F') (hk : ∀ a, P a → F' a = H a) : Fz K T F' d.frz v := (Ow.freeze_both s).1 _ _ _ h hk
theorem OwL.freeze {ds : List D} {vs : List V} {P : Ft} (h : OwL K T F H ds vs P) (s : Same F F') (hk : ∀ a, P a → F' a = H a) : FzL K T F' (D.frzL ds) vs := (Ow.freeze_both s).2 _ _ _ h hk
/-- seen as a whole, at H -/
theorem Ow.seen {d : D} {v : V} {P : Ft} (h : Ow K T F H d v P) (s : Same F H) : Fz K T H d.frz v := h.freeze s fun _ _ => rfl
theorem OwL.seen {ds : List D} {vs : List V} {P : Ft} (h : OwL K T F H ds vs P) (s : Same F H) : FzL K T H (D.frzL ds) vs := h.freeze s fun _ _ => rfl

/-- one item of a row, and the rest's promise -/
theorem OwL.focus {ds : List D} {vs : List V} {P : Ft} (h : OwL K T F H ds vs P) {n : Nat} {d : D} (e : ds[n]? = some d) :
    ∃ v P1 P2, vs[n]? = some v ∧ Ow K T F H d v P1 ∧ Dj P1 P2 ∧ Uni P P1 P2 ∧
      ∀ (F' H' : Hp) (d' : D) (v' : V) (P1' P' : Ft), Same F F' → (∀ a, P2 a → H' a = H a) → (∀ a, P2 a → F' a = none) → Ow K T F' H' d' v' P1' → Dj P1' P2 → Uni P' P1' P2 → OwL K T F' H' (ds.set n d') (vs.set n v') P' := by
  induction ds generalizing vs n P with
  | nil => simp at e
  | cons d0 r ih =>
    cases h with
    | @cons _ v0 _ vs0 _ Q1 Q2 h1 h2 dj un =>
      cases n with
      | zero =>
        simp at e; subst e
        refine ⟨v0, Q1, Q2, rfl, h1, dj, un, ?_⟩
        intro F' H' d' v' P1' P' s hk hf o dj' un'
        exact .cons o (h2.frame s hk hf) dj' un'
      | succ n =>
        obtain ⟨v, P1, P2, ev, o, dj1, un1, wand⟩ := ih h2 (by simpa using e)
        refine ⟨v, P1, fun a => Q1 a ∨ P2 a, by simpa using ev, o, fun a p q => ?_, fun a => ?_, ?_⟩
        · rcases q with q | q
          · exact dj a q ((un1 a).mpr (.inl p))
          · exact dj1 a p q
        · constructor
          · intro p
            rcases (un a).mp p with p | p
            · exact .inr (.inl p)
            · rcases (un1 a).mp p with p | p
              · exact .inl p
              · exact .inr (.inr p)
          · rintro (p | p | p)
            · exact (un a).mpr (.inr ((un1 a).mpr (.inl p)))
            · exact (un a).mpr (.inl p)
            · exact (un a).mpr (.inr ((un1 a).mpr (.inr p)))
        · intro F' H' d' v' P1' P' s hk hf o' dj' un'
          have w := wand F' H' d' v' P1' (fun a => P1' a ∨ P2 a) s (fun a p => hk a (.inr p)) (fun a p => hf a (.inr p)) o' (fun a p q => dj' a p (.inr q)) (fun _ => Iff.rfl)
          refine .cons (h1.frame s (fun a p => hk a (.inl p)) fun a p => hf a (.inl p)) w (fun a p q => ?_) fun a => ?_
          · rcases q with q | q
            · exact dj' a q (.inl p)
            · exact dj a p ((un1 a).mpr (.inr q))
          · rw [un' a]
            constructor
            · rintro (p | p | p)
              · exact .inr (.inl p)
              · exact .inl p
              · exact .inr (.inr p)
            · rintro (p | p | p)
              · exact .inr (.inl p)
              · exact .inl p
              · exact .inr (.inr p)
end
end VL

/-! VL2: paths into data; the state of a body. -/
namespace VL
open PySem PySem.Spec L2

/-- down a path of owned nodes -/
def D.getO : D → List Nat → Option D
  | d, [] => some d
  | .node o _ ds, n :: ns => if o = true then (match ds[n]? with | some d => D.getO d ns | none => none) else none
  | .leaf _, _ :: _ => none
def D.putO : D → List Nat → D → D
  | _, [], d' => d'
  | .node o k ds, n :: ns, d' => .node o k (match ds[n]? with | some d => ds.set n (D.putO d ns d') | none => ds)
  | .leaf s, _ :: _, _ => .leaf s
/-- the same down the heap -/
def vkid (H : Hp) : V → Nat → Option V
  | .ref a, n => match H a with
    | some (.lst vs) => vs[n]?
    | some (.tup vs) => vs[n]?
    | some (.dK kvs) => (kvs[n]?).map (·.2)
    | some (.dT kvs) => (kvs[n]?).map (·.2)
    | some (.ins _ _ fs) => (fs[n]?).map (·.2)
    | _ => none
  | _, _ => none
def vget (H : Hp) : V → List Nat → Option V
  | v, [] => some v
  | v, n :: ns => match vkid H v n with | some u => vget H u ns | none => none

theorem zip_snd {α β : Type} : ∀ (ks : List α) (vs : List β) (n : Nat), ks.length = vs.length → ((ks.zip vs)[n]?).map (·.2) = vs[n]?
  | [], [], n, _ => by simp
  | [], _ :: _, _, h => by simp at h
  | _ :: _, [], _, h => by simp at h
  | k :: ks, v :: vs, 0, _ => by simp
  | k :: ks, v :: vs, n + 1, h => by
    have := zip_snd ks vs n (by simpa using h)
    simpa using this
section
variable {K : PySem.W.Frag} {T : String → Option Addr} {F F' H H' : Hp}
theorem NodeW.kid {a dx : Addr} {k : Kn} {vs : List V} (h : NodeW T H a dx k vs) (n : Nat) : vkid H (.ref a) n = vs[n]? := by
  obtain ⟨h1, C, h2, h3⟩ := h
  simp only [vkid]
  rw [h2]
  cases k with
  | lst => rfl
  | tup => rfl
  | dic ks => exact zip_snd _ _ _ h1.1
  | dit ks => exact zip_snd _ _ _ h1.1
  | ins c fs => exact zip_snd _ _ _ (by rw [List.length_map]; exact h1.1)

/-- a part of owned data, and the rest's promise -/
theorem Ow.focus : ∀ {ns : List Nat} {d : D} {v : V} {P : Ft}, Ow K T F H d v P → ∀ {d1 : D}, d.getO ns = some d1 →
    ∃ v1 P1 P2, vget H v ns = some v1 ∧ Ow K T F H d1 v1 P1 ∧ Dj P1 P2 ∧ Uni P P1 P2 ∧
      ∀ (F' H' : Hp) (d1' : D) (P1' P' : Ft), Same F F' → (∀ a, P2 a → H' a = H a) → (∀ a, P2 a → F' a = none) → Ow K T F' H' d1' v1 P1' → Dj P1' P2 → Uni P' P1' P2 → Ow K T F' H' (d.putO ns d1') v P'
  | [], d, v, P, h, d1, e => by
    have e' : d = d1 := by cases d <;> exact Option.some.inj e
    subst e'
    refine ⟨v, P, fun _ => False, rfl, h, fun _ _ z => z, fun a => ⟨.inl, fun z => z.elim id False.elim⟩, ?_⟩
    intro F' H' d1' P1' P' s _ _ o _ un
    have ep : P' = P1' := funext fun a => propext ⟨fun p => ((un a).mp p).elim id False.elim, fun p => (un a).mpr (.inl p)⟩
    subst ep
    cases d <;> exact o
  | n :: ns, d, v, P, h, d1, e => by
    cases h with
    | leaf _ _ => simp [D.getO] at e
    | fz _ _ => simp [D.getO] at e
    | @own a dx k vs ds _ P0 hn hl n1 n2 f1 f2 hp =>
      simp only [D.getO, if_true] at e
      cases q : ds[n]? with
      | none => rw [q] at e; cases e
      | some d0 =>
        rw [q] at e
        obtain ⟨v0, Q1, Q2, ev, o, dj, un, wand⟩ := hl.focus q
        obtain ⟨v1, P1, P2, eg, o1, dj1, un1, wand1⟩ := Ow.focus (ns := ns) o e
        refine ⟨v1, P1, fun b => (b = a ∨ b = dx) ∨ P2 b ∨ Q2 b, ?_, o1, ?_, ?_, ?_⟩
        · simp only [vget]; rw [hn.kid, ev]; exact eg
        · intro b p z
          have p0 : P0 b := (un b).mpr (.inl ((un1 b).mpr (.inl p)))
          rcases z with (rfl | rfl) | z | z
          · exact n1 p0
          · exact n2 p0
          · exact dj1 b p z
          · exact dj b ((un1 b).mpr (.inl p)) z
        · intro b
          rw [hp b, un b, un1 b]
          constructor
          · rintro (z | (z | z) | z)
            · exact .inr (.inl z)
            · exact .inl z
            · exact .inr (.inr (.inl z))
            · exact .inr (.inr (.inr z))
          · rintro (z | z | z | z)
            · exact .inr (.inl (.inl z))
            · exact .inl z
            · exact .inr (.inl (.inr z))
            · exact .inr (.inr z)
        · intro F' H' d1' P1' P' s hk hf o' dj' un'
          have w1 := wand1 F' H' d1' P1' (fun b => P1' b ∨ P2 b) s (fun b z => hk b (.inr (.inl z))) (fun b z => hf b (.inr (.inl z))) o' (fun b p z => dj' b p (.inr (.inl z))) (fun _ => Iff.rfl)
          have w := wand F' H' (d0.putO ns d1') v0 (fun b => P1' b ∨ P2 b) (fun b => (P1' b ∨ P2 b) ∨ Q2 b) s (fun b z => hk b (.inr (.inr z))) (fun b z => hf b (.inr (.inr z))) w1
            (fun b p z => by
              rcases p with p | p
              · exact dj' b p (.inr (.inr z))
              · exact dj b ((un1 b).mpr (.inr p)) z) (fun _ => Iff.rfl)
          have ev' : vs.set n v0 = vs := List.ext_getElem? fun j => by
            by_cases hj : n = j
            · subst hj
              rw [List.getElem?_set_self (List.getElem?_eq_some_iff.mp ev).1, ev]
            · rw [List.getElem?_set_ne hj]
          rw [ev'] at w
          simp only [D.putO]; rw [q]
          refine .own (hn.same (hk _ (.inl (.inl rfl))) (hk _ (.inl (.inr rfl)))) w ?_ ?_ (hf _ (.inl (.inl rfl))) (hf _ (.inl (.inr rfl))) ?_
          · rintro ((z | z) | z)
            · exact dj' _ z (.inl (.inl rfl))
            · exact n1 ((un _).mpr (.inl ((un1 _).mpr (.inr z))))
            · exact n1 ((un _).mpr (.inr z))
          · rintro ((z | z) | z)
            · exact dj' _ z (.inl (.inr rfl))
            · exact n2 ((un _).mpr (.inl ((un1 _).mpr (.inr z))))
            · exact n2 ((un _).mpr (.inr z))
          · intro b
            rw [un' b]
            constructor
            · rintro (z | z | z | z)
              · exact .inr (.inl (.inl z))
              · exact .inl z
              · exact .inr (.inl (.inr z))
              · exact .inr (.inr z)
            · rintro (z | (z | z) | z)
              · exact .inr (.inl z)
              · exact .inl z
              · exact .inr (.inr (.inl z))
              · exact .inr (.inr (.inr z))

/-- the slots -/
inductive OwS (K : PySem.W.Frag) (T : String → Option Addr) (F H : Hp) : List (Option D) → St → Ft → Prop
  | nil {P : Ft} : Emp P → OwS K T F H [] [] P
  | none {x : Option V} {r : List (Option D)} {σ : St} {P : Ft} : OwS K T F H r σ P → OwS K T F H (none :: r) (x :: σ) P
  | some {d : D} {v : V} {r : List (Option D)} {σ : St} {P P1 P2 : Ft} : Ow K T F H d v P1 → OwS K T F H r σ P2 → Dj P1 P2 → Uni P P1 P2 → OwS K T F H (some d :: r) (some v :: σ) P
theorem OwS.frame {r : List (Option D)} {σ : St} {P : Ft} (h : OwS K T F H r σ P) (s : Same F F') (hk : ∀ a, P a → H' a = H a) (hf : ∀ a, P a → F' a = Option.none) : OwS K T F' H' r σ P := by
  induction h with
  | nil e => exact .nil e
  | none _ ih => exact .none (ih hk hf)
  | some o _ dj un ih => exact .some (o.frame s (fun a p => hk a ((un a).mpr (.inl p))) fun a p => hf a ((un a).mpr (.inl p))) (ih (fun a p => hk a ((un a).mpr (.inr p))) fun a p => hf a ((un a).mpr (.inr p))) dj un
theorem OwS.at {r : List (Option D)} {σ : St} {P : Ft} (h : OwS K T F H r σ P) {a : Addr} (p : P a) : F a = Option.none ∧ ∃ o, H a = Option.some o := by
  induction h with
  | nil e => exact (e a p).elim
  | none _ ih => exact ih p
  | some o _ dj un ih =>
    rcases (un a).mp p with p | p
    · exact o.at p
    · exact ih p
theorem OwS.noKT {r : List (Option D)} {σ : St} {P : Ft} (h : OwS K T F H r σ P) {a : Addr} {w : HO} (p : P a) (ew : H a = Option.some w) : ¬ KT w := by
  induction h with
  | nil e => exact (e a p).elim
  | none _ ih => exact ih p
  | some o _ dj un ih =>
    rcases (un a).mp p with p | p
    · exact o.noKT p ew
    · exact ih p
theorem OwS.length {r : List (Option D)} {σ : St} {P : Ft} (h : OwS K T F H r σ P) : σ.length = r.length := by
  induction h with
  | nil _ => rfl
  | none _ ih => simp [ih]
  | some _ _ _ _ ih => simp [ih]
/-- one slot, and the rest's promise; the slot may be given up -/
theorem OwS.focus {r : List (Option D)} {σ : St} {P : Ft} (h : OwS K T F H r σ P) {n : Nat} {d : D} (e : r[n]? = Option.some (Option.some d)) :
    ∃ v P1 P2, σ[n]? = Option.some (Option.some v) ∧ Ow K T F H d v P1 ∧ Dj P1 P2 ∧ Uni P P1 P2 ∧ OwS K T F H (r.set n Option.none) σ P2 ∧
      ∀ (F' H' : Hp) (d' : D) (v' : V) (P1' P' : Ft), Same F F' → (∀ a, P2 a → H' a = H a) → (∀ a, P2 a → F' a = Option.none) → Ow K T F' H' d' v' P1' → Dj P1' P2 → Uni P' P1' P2 → OwS K T F' H' (r.set n (Option.some d')) (σ.set n (Option.some v')) P' := by
  induction h generalizing n with
  | nil => simp at e
  | @none x r σ P hr ih =>
    cases n with
    | zero => simp at e
    | succ n =>
      obtain ⟨v, P1, P2, ev, o, dj, un, give, wand⟩ := ih (by simpa using e)
      exact ⟨v, P1, P2, by simpa using ev, o, dj, un, .none give, fun F' H' d' v' P1' P' s hk hf o' dj' un' => .none (wand F' H' d' v' P1' P' s hk hf o' dj' un')⟩
  | @some d0 v0 r σ P Q1 Q2 h1 h2 dj un ih =>
    cases n with
    | zero =>
      simp at e; subst e
      exact ⟨v0, Q1, Q2, rfl, h1, dj, un, .none h2, fun F' H' d' v' P1' P' s hk hf o dj' un' => .some o (h2.frame s hk hf) dj' un'⟩
    | succ n =>
      obtain ⟨v, P1, P2, ev, o, dj1, un1, give, wand⟩ := ih (by simpa using e)
      refine ⟨v, P1, fun a => Q1 a ∨ P2 a, by simpa using ev, o, fun a p q => ?_, fun a => ?_, ?_, ?_⟩
      · rcases q with q | q
        · exact dj a q ((un1 a).mpr (.inl p))
        · exact dj1 a p q
      · rw [un a, un1 a]
        constructor
        · rintro (p | p | p)
          · exact .inr (.inl p)
          · exact .inl p
          · exact .inr (.inr p)
        · rintro (p | p | p)
          · exact .inr (.inl p)
          · exact .inl p
          · exact .inr (.inr p)
      · exact .some h1 give (fun a p q => dj a p ((un1 a).mpr (.inr q))) fun _ => Iff.rfl
      · intro F' H' d' v' P1' P' s hk hf o' dj' un'
        have w := wand F' H' d' v' P1' (fun a => P1' a ∨ P2 a) s (fun a p => hk a (.inr p)) (fun a p => hf a (.inr p)) o' (fun a p q => dj' a p (.inr q)) (fun _ => Iff.rfl)
        refine .some (h1.frame s (fun a p => hk a (.inl p)) fun a p => hf a (.inl p)) w (fun a p q => ?_) fun a => ?_
        · rcases q with q | q
          · exact dj' a q (.inl p)
          · exact dj a p ((un1 a).mpr (.inr q))
        · rw [un' a]
          constructor
          · rintro (p | p | p)
            · exact .inr (.inl p)
            · exact .inl p
            · exact .inr (.inr p)
          · rintro (p | p | p)
            · exact .inr (.inl p)
            · exact .inl p
            · exact .inr (.inr p)
/-- a slot takes new data (whatever it held) -/
theorem OwS.put {r : List (Option D)} {σ : St} {P : Ft} (h : OwS K T F H r σ P) {n : Nat} (hn : n < r.length) {d : D} {v : V} {P1 : Ft} (o : Ow K T F H d v P1) (dj : Dj P1 P) :
    ∃ P', OwS K T F H (r.set n (Option.some d)) (σ.set n (Option.some v)) P' ∧ ∀ a, P' a → P1 a ∨ P a := by
  induction h generalizing n with
  | nil => simp at hn
  | @none x r σ P hr ih =>
    cases n with
    | zero => exact ⟨fun a => P1 a ∨ P a, .some o hr dj fun _ => Iff.rfl, fun a p => p⟩
    | succ n =>
      obtain ⟨P', h1, h2⟩ := ih (by simpa using hn) dj
      exact ⟨P', .none h1, h2⟩
  | @some d0 v0 r σ P Q1 Q2 h1 h2 dj0 un ih =>
    cases n with
    | zero =>
      exact ⟨fun a => P1 a ∨ Q2 a, .some o h2 (fun a p q => dj a p ((un a).mpr (.inr q))) fun _ => Iff.rfl, fun a p => p.imp id fun q => (un a).mpr (.inr q)⟩
    | succ n =>
      obtain ⟨P', g1, g2⟩ := ih (by simpa using hn) fun a p q => dj a p ((un a).mpr (.inr q))
      refine ⟨fun a => Q1 a ∨ P' a, .some h1 g1 (fun a p q => ?_) fun _ => Iff.rfl, fun a p => ?_⟩
      · rcases g2 a q with q | q
        · exact dj a q ((un a).mpr (.inl p))
        · exact dj0 a p q
      · rcases p with p | p
        · exact .inr ((un a).mpr (.inl p))
        · exact (g2 a p).imp id fun q => (un a).mpr (.inr q)
end
end VL

/-! VL3: the state, what is read of it, what a program does to it. -/
namespace VL
open PySem PySem.Spec L2

abbrev VS := List (Option D)
inductive R (α : Type) where
  | ok (a : α) (r : VS)
  | ex (c : String) (r : VS)
  | no
abbrev M (α : Type) := VS → R α
def M.ret {α : Type} (a : α) : M α := fun r => .ok a r
def M.bind {α β : Type} (m : M α) (k : α → M β) : M β := fun r => match m r with
  | .ok a r' => k a r'
  | .ex c r' => .ex c r'
  | .no => .no
def M.opt {α : Type} (o : Option α) : M α := fun r => match o with
  | some a => .ok a r
  | none => .no
def M.no {α : Type} : M α := fun _ => .no

/-- what is fixed through a body: the heap, the footprint and the frozen part at its entry; the slots that no store may turn -/
structure Gm where
  H0 : Hp
  P0 : Ft
  F0 : Hp
  pin : Nat → Option V
  tb : List (Addr × Str)

theorem tabs_keep {tb : List (Addr × Str)} {H H' : Hp} (t : LamX.Tabs tb H) (k : ∀ a o, H a = some o → ¬ PlainO o → H' a = some o) : LamX.Tabs tb H' := fun p hp => by
  obtain ⟨ps, h1, h2, h3⟩ := t p hp
  refine ⟨ps, k _ _ h1 id, h2, fun pos cv hc => ?_⟩
  obtain ⟨c, e1, e2⟩ := h3 pos cv hc
  exact ⟨c, e1, k _ _ e2 id⟩
/-- the tables are right, and no one's frozen matter -/
def TabF (tb : List (Addr × Str)) (F H : Hp) : Prop := LamX.Tabs tb H ∧ ∀ p ∈ tb, F p.1 = none
theorem TabF.gen {tb : List (Addr × Str)} {F F' H H' : Hp} (t : TabF tb F H) (k : ∀ a o, H a = some o → ¬ PlainO o → H' a = some o) (kF : ∀ a o, F' a = some o → F a = some o ∨ H a = none ∨ ∃ u, H a = some u ∧ PlainO u) : TabF tb F' H' := by
  refine ⟨tabs_keep t.1 k, fun p hp => ?_⟩
  cases e : F' p.1 with
  | none => rfl
  | some o =>
    obtain ⟨ps, h1, _, _⟩ := t.1 p hp
    rcases kF _ _ e with w | w | ⟨u, w, pl⟩
    · rw [t.2 p hp] at w; cases w
    · rw [h1] at w; cases w
    · rw [h1] at w; cases w; exact pl.elim
theorem TabF.nil {F H : Hp} : TabF [] F H := ⟨(fun _ h => nomatch h), (fun _ h => nomatch h)⟩
theorem tabs_same {tb : List (Addr × Str)} {F H H' : Hp} (t : TabF tb F H) (s : Same H H') : TabF tb F H' := t.gen (fun a o e _ => s a o e) fun _ _ e => .inl e
theorem updK {H : Hp} {p : Addr} {o o' : HO} (e : H p = some o) (h : PlainO o) : ∀ a u, H a = some u → ¬ PlainO u → upd H p o' a = some u := fun a u z n => by
  by_cases q : a = p
  · subst q; rw [e] at z; cases z; exact (n h).elim
  · rw [upd_ne q]; exact z
theorem tabs_upd {tb : List (Addr × Str)} {F H : Hp} {p : Addr} {o o' : HO} (t : TabF tb F H) (e : H p = some o) (h : PlainO o) : TabF tb F (upd H p o') := t.gen (updK e h) fun _ _ e => .inl e

structure Rl (K : PySem.W.Frag) (T : String → Option Addr) (G : Gm) (F : Hp) (r : VS) (t : List D) (σ : St) (tv : List V) (H : Hp) : Prop where
  st : ∃ Ps Pt, OwS K T F H r σ Ps ∧ OwL K T F H t tv Pt ∧ Dj Ps Pt ∧ ∀ a, Ps a ∨ Pt a → G.P0 a ∨ G.H0 a = none
  sub : Same F H
  keep : ∀ a o, G.H0 a = some o → ¬ G.P0 a → H a = some o
  frz : ∀ a o, F a = some o → G.F0 a = some o ∨ G.P0 a ∨ G.H0 a = none ∨ KT o
  base : Same G.F0 F
  pin : ∀ i v, G.pin i = some v → σ[i]? = some (some v)
  tab : TabF G.tb F H

section
variable (K : PySem.W.Frag) (T : String → Option Addr)
mutual
/-- data that is looked at: nobody's -/
inductive Lk (F H : Hp) : D → V → Prop
  | leaf {s : Sc} {v : V} : ScV s v → Lk F H (.leaf s) v
  | fz {k : Kn} {ds : List D} {v : V} : Fz K T F (.node false k ds) v → Lk F H (.node false k ds) v
  | own {a : Addr} {k : Kn} {vs : List V} {ds : List D} : NodeF K T H a k vs → LkL F H ds vs → Lk F H (.node true k ds) (.ref a)
inductive LkL (F H : Hp) : List D → List V → Prop
  | nil : LkL F H [] []
  | cons {d : D} {v : V} {ds : List D} {vs : List V} : Lk F H d v → LkL F H ds vs → LkL F H (d :: ds) (v :: vs)
end
end

section
variable {K : PySem.W.Frag} {T : String → Option Addr} {F F' H H' : Hp}
theorem Lk.mono_both (s : Same F F') (s2 : Same H H') : (∀ d v, Lk K T F H d v → Lk K T F' H' d v) ∧ ∀ ds vs, LkL K T F H ds vs → LkL K T F' H' ds vs := by
  constructor
  · intro d v h
    exact Lk.rec (motive_1 := fun d v _ => Lk K T F' H' d v) (motive_2 := fun ds vs _ => LkL K T F' H' ds vs) (fun h => .leaf h) (fun h => .fz (h.mono s)) (fun h _ i => .own (h.mono s2) i) .nil (fun _ _ a b => .cons a b) h
  · intro d v h
    exact LkL.rec (motive_1 := fun d v _ => Lk K T F' H' d v) (motive_2 := fun ds vs _ => LkL K T F' H' ds vs) (fun h => .leaf h) (fun h => .fz (h.mono s)) (fun h _ i => .own (h.mono s2) i) .nil (fun _ _ a b => .cons a b) h
theorem Lk.mono {d : D} {v : V} (s : Same F F') (s2 : Same H H') (h : Lk K T F H d v) : Lk K T F' H' d v := (Lk.mono_both s s2).1 _ _ h
theorem LkL.mono {ds : List D} {vs : List V} (s : Same F F') (s2 : Same H H') (h : LkL K T F H ds vs) : LkL K T F' H' ds vs := (Lk.mono_both s s2).2 _ _ h
theorem Fz.lk {d : D} {v : V} (h : Fz K T F d v) : Lk K T F H d v := by
  cases h with
  | leaf h => exact .leaf h
  | node h1 h2 => exact .fz (.node h1 h2)
theorem FzL.lk {ds : List D} {vs : List V} (h : FzL K T F ds vs) : LkL K T F H ds vs := by
  induction ds generalizing vs with
  | nil => cases h; exact .nil
  | cons d r ih => cases h with | cons h1 h2 => exact .cons h1.lk (ih h2)
theorem Ow.lk_both : (∀ d v P, Ow K T F H d v P → Lk K T F H d v) ∧ ∀ ds vs P, OwL K T F H ds vs P → LkL K T F H ds vs := by
  constructor
  · intro d v P h
    exact Ow.rec (motive_1 := fun d v P _ => Lk K T F H d v) (motive_2 := fun ds vs P _ => LkL K T F H ds vs) (fun h _ => .leaf h) (fun h _ => .fz h) (fun h _ _ _ _ _ _ i => .own h.toF i) (fun _ => .nil) (fun _ _ _ _ a b => .cons a b) h
  · intro d v P h
    exact OwL.rec (motive_1 := fun d v P _ => Lk K T F H d v) (motive_2 := fun ds vs P _ => LkL K T F H ds vs) (fun h _ => .leaf h) (fun h _ => .fz h) (fun h _ _ _ _ _ _ i => .own h.toF i) (fun _ => .nil) (fun _ _ _ _ a b => .cons a b) h
theorem Ow.lk {d : D} {v : V} {P : Ft} (h : Ow K T F H d v P) : Lk K T F H d v := Ow.lk_both.1 _ _ _ h
theorem OwL.lk {ds : List D} {vs : List V} {P : Ft} (h : OwL K T F H ds vs P) : LkL K T F H ds vs := Ow.lk_both.2 _ _ _ h
theorem Lk.seen_both (s : Same F H) : (∀ d v, Lk K T F H d v → Fz K T H d.frz v) ∧ ∀ ds vs, LkL K T F H ds vs → FzL K T H (D.frzL ds) vs := by
  have m2 : ∀ {k : Kn} {ds : List D} {v : V}, Fz K T F (.node false k ds) v → Fz K T H (D.frz (.node false k ds)) v := fun h => by rw [h.frz]; exact h.mono s
  constructor
  · intro d v h
    exact Lk.rec (motive_1 := fun d v _ => Fz K T H d.frz v) (motive_2 := fun ds vs _ => FzL K T H (D.frzL ds) vs) (fun h => .leaf h) m2 (fun h _ i => .node h i) .nil (fun _ _ a b => .cons a b) h
  · intro d v h
    exact LkL.rec (motive_1 := fun d v _ => Fz K T H d.frz v) (motive_2 := fun ds vs _ => FzL K T H (D.frzL ds) vs) (fun h => .leaf h) m2 (fun h _ i => .node h i) .nil (fun _ _ a b => .cons a b) h
theorem Lk.seen {d : D} {v : V} (h : Lk K T F H d v) (s : Same F H) : Fz K T H d.frz v := (Lk.seen_both s).1 _ _ h
theorem LkL.seen {ds : List D} {vs : List V} (h : LkL K T F H ds vs) (s : Same F H) : FzL K T H (D.frzL ds) vs := (Lk.seen_both s).2 _ _ h
theorem LkL.length {ds : List D} {vs : List V} (h : LkL K T F H ds vs) : ds.length = vs.length := by
  induction ds generalizing vs with
  | nil => cases h; rfl
  | cons d r ih => cases h with | cons _ h2 => simp [ih h2]
theorem LkL.get {ds : List D} {vs : List V} (h : LkL K T F H ds vs) {n : Nat} {d : D} (e : ds[n]? = some d) : ∃ v, vs[n]? = some v ∧ Lk K T F H d v := by
  induction ds generalizing vs n with
  | nil => simp at e
  | cons d' r ih =>
    cases h with
    | cons h1 h2 =>
      cases n with
      | zero => simp at e; subst e; exact ⟨_, rfl, h1⟩
      | succ n => simpa using ih h2 (by simpa using e)
/-- what may be shared is frozen -/
theorem Lk.shr {d : D} {v : V} (h : Lk K T F H d v) (s : d.shr = true) : Fz K T F d v := by
  cases h with
  | leaf h => exact .leaf h
  | fz h => exact h
  | own => simp [D.shr] at s
theorem LkL.shr {ds : List D} {vs : List V} (h : LkL K T F H ds vs) (s : ds.all D.shr = true) : FzL K T F ds vs := by
  induction ds generalizing vs with
  | nil => cases h; exact .nil
  | cons d r ih =>
    simp at s
    cases h with
    | cons h1 h2 => exact .cons (h1.shr s.1) (ih h2 (by simpa using s.2))
/-- a node that is looked at -/
theorem Lk.node {o : Bool} {k : Kn} {ds : List D} {v : V} (h : Lk K T F H (.node o k ds) v) (s : Same F H) : ∃ a vs, v = .ref a ∧ NodeF K T H a k vs ∧ LkL K T F H ds vs := by
  cases h with
  | fz h =>
    cases h with
    | node h1 h2 => exact ⟨_, _, rfl, h1.mono s, h2.lk⟩
  | own h1 h2 => exact ⟨_, _, rfl, h1, h2⟩

/-! ### the state -/
section
variable {G : Gm} {r : VS} {t : List D} {σ : St} {tv : List V}
theorem Rl.drop {d : D} {v : V} (h : Rl K T G F r (d :: t) σ (v :: tv) H) : Rl K T G F r t σ tv H := by
  obtain ⟨⟨Ps, Pt, h1, h2, dj, hp⟩, b1, b2, b3, b4, b5, b6⟩ := h
  cases h2 with
  | cons o h2 dj2 un => exact ⟨⟨Ps, _, h1, h2, fun a p q => dj a p ((un a).mpr (.inr q)), fun a p => hp a (p.imp id fun q => (un a).mpr (.inr q))⟩, b1, b2, b3, b4, b5, b6⟩
theorem Rl.top {d : D} {v : V} (h : Rl K T G F r (d :: t) σ (v :: tv) H) : Lk K T F H d v := by
  obtain ⟨⟨Ps, Pt, h1, h2, dj, hp⟩, _⟩ := h
  cases h2 with
  | cons o _ _ _ => exact o.lk
theorem Rl.push {d : D} {v : V} (h : Rl K T G F r t σ tv H) (f : Fz K T F d v) : Rl K T G F r (d :: t) σ (v :: tv) H := by
  obtain ⟨⟨Ps, Pt, h1, h2, dj, hp⟩, b1, b2, b3, b4, b5, b6⟩ := h
  exact ⟨⟨Ps, Pt, h1, .cons (P1 := fun _ => False) (.fz_emp f fun _ z => z) h2 (fun _ z => z.elim) fun a => ⟨.inr, fun z => z.elim False.elim id⟩, dj, hp⟩, b1, b2, b3, b4, b5, b6⟩
/-- new untracked matter -/
theorem Rl.grow (h : Rl K T G F r t σ tv H) (s : Same H H') : Rl K T G F r t σ tv H' := by
  obtain ⟨⟨Ps, Pt, h1, h2, dj, hp⟩, b1, b2, b3, b4, b5, b6⟩ := h
  refine ⟨⟨Ps, Pt, h1.frame (Same.refl _) (fun a p => ?_) fun a p => (h1.at p).1, h2.frame (Same.refl _) (fun a p => ?_) fun a p => (h2.at p).1, dj, hp⟩, b1.trans s, fun a o e n => s _ _ (b2 a o e n), b3, b4, b5, tabs_same b6 s⟩
  · obtain ⟨_, o, e⟩ := h1.at p
    rw [e]; exact s _ _ e
  · obtain ⟨_, o, e⟩ := h2.at p
    rw [e]; exact s _ _ e
noncomputable def ovr (A : Ft) (H F : Hp) : Hp := fun a => if (Classical.propDecidable (A a)).decide then H a else F a
theorem ovr_in {A : Ft} {H F : Hp} {a : Addr} (h : A a) : ovr A H F a = H a := by simp [ovr, h]
theorem ovr_out {A : Ft} {H F : Hp} {a : Addr} (h : ¬ A a) : ovr A H F a = F a := by simp [ovr, h]
theorem same_upd {p : Addr} {o : HO} (h : H p = none) : Same H (upd H p o) := fun b u e => by
  rw [upd_ne (ne_of_none e h)]; exact e
theorem OwL.cut : ∀ {ds : List D} {vs : List V} {P : Ft} {t : List D} {tv : List V}, ds.length = vs.length → OwL K T F H (ds ++ t) (vs ++ tv) P → ∃ A B, OwL K T F H ds vs A ∧ OwL K T F H t tv B ∧ Dj A B ∧ Uni P A B
  | [], [], P, t, tv, _, h => ⟨fun _ => False, P, .nil fun _ z => z, h, fun _ z => z.elim, fun a => ⟨.inr, fun z => z.elim False.elim id⟩⟩
  | [], _ :: _, _, _, _, hl, _ => by simp at hl
  | _ :: _, [], _, _, _, hl, _ => by simp at hl
  | d :: ds, v :: vs, P, t, tv, hl, h => by
    cases h with
    | @cons _ _ _ _ _ Q1 Q2 o h dj un =>
      obtain ⟨A, B, g1, g2, g3, g4⟩ := OwL.cut (by simpa using hl) h
      refine ⟨fun a => Q1 a ∨ A a, B, .cons o g1 (fun a p q => dj a p ((g4 a).mpr (.inl q))) fun _ => Iff.rfl, g2, fun a p q => ?_, fun a => ?_⟩
      · rcases p with p | p
        · exact dj a p ((g4 a).mpr (.inr q))
        · exact g3 a p q
      · rw [un a, g4 a]
        constructor
        · rintro (z | z | z)
          · exact .inl (.inl z)
          · exact .inl (.inr z)
          · exact .inr z
        · rintro ((z | z) | z)
          · exact .inl z
          · exact .inr (.inl z)
          · exact .inr (.inr z)
theorem OwL.join : ∀ {ds : List D} {vs : List V} {A B P : Ft} {t : List D} {tv : List V}, OwL K T F H ds vs A → OwL K T F H t tv B → Dj A B → Uni P A B → OwL K T F H (ds ++ t) (vs ++ tv) P
  | [], _, A, B, P, t, tv, h1, h2, dj, un => by
    cases h1 with
    | nil e =>
      have ep : P = B := funext fun a => propext ⟨fun p => ((un a).mp p).elim (fun z => (e a z).elim) id, fun p => (un a).mpr (.inr p)⟩
      subst ep; exact h2
  | d :: ds, _, A, B, P, t, tv, h1, h2, dj, un => by
    cases h1 with
    | @cons _ _ _ _ _ Q1 Q2 o h dj1 un1 =>
      refine .cons o (OwL.join (P := fun a => Q2 a ∨ B a) h h2 (fun a p q => dj a ((un1 a).mpr (.inr p)) q) fun _ => Iff.rfl) (fun a p q => ?_) fun a => ?_
      · rcases q with q | q
        · exact dj1 a p q
        · exact dj a ((un1 a).mpr (.inl p)) q
      · rw [un a, un1 a]
        constructor
        · rintro ((z | z) | z)
          · exact .inl z
          · exact .inr (.inl z)
          · exact .inr (.inr z)
        · rintro (z | z | z)
          · exact .inl (.inl z)
          · exact .inl (.inr z)
          · exact .inr z
theorem OwL.one {d : D} {v : V} {P : Ft} (h : Ow K T F H d v P) : OwL K T F H [d] [v] P := .cons (P2 := fun _ => False) h (.nil fun _ z => z) (fun _ _ z => z) fun a => ⟨.inl, fun z => z.elim id False.elim⟩
theorem OwL.lift {ds : List D} {vs : List V} {P : Ft} {t : List D} {tv : List V} {d : D} {v : V} (hl : ds.length = vs.length) (h : OwL K T F H (ds ++ d :: t) (vs ++ v :: tv) P) : OwL K T F H (d :: ds ++ t) (v :: vs ++ tv) P := by
  obtain ⟨A, B, g1, g2, dj, un⟩ := OwL.cut hl h
  cases g2 with
  | @cons _ _ _ _ _ Q1 Q2 o g2 dj1 un1 =>
    refine .cons o (OwL.join (P := fun a => A a ∨ Q2 a) g1 g2 (fun a p q => dj a p ((un1 a).mpr (.inr q))) fun _ => Iff.rfl) (fun a p q => ?_) fun a => ?_
    · rcases q with q | q
      · exact dj a q ((un1 a).mpr (.inl p))
      · exact dj1 a p q
    · rw [un a, un1 a]
      constructor
      · rintro (z | z | z)
        · exact .inr (.inl z)
        · exact .inl z
        · exact .inr (.inr z)
      · rintro (z | z | z)
        · exact .inr (.inl z)
        · exact .inl z
        · exact .inr (.inr z)
theorem Rl.lift {ds : List D} {vs : List V} {d : D} {v : V} (hl : ds.length = vs.length) (h : Rl K T G F r (ds ++ d :: t) σ (vs ++ v :: tv) H) : Rl K T G F r (d :: ds ++ t) σ (v :: vs ++ tv) H := by
  obtain ⟨⟨Ps, Pt, h1, h2, dj, hp⟩, b1, b2, b3, b4, b5, b6⟩ := h
  exact ⟨⟨Ps, Pt, h1, OwL.lift hl h2, dj, hp⟩, b1, b2, b3, b4, b5, b6⟩
theorem Rl.dropN {ds : List D} {vs : List V} (hl : ds.length = vs.length) (h : Rl K T G F r (ds ++ t) σ (vs ++ tv) H) : Rl K T G F r t σ tv H := by
  obtain ⟨⟨Ps, Pt, h1, h2, dj, hp⟩, b1, b2, b3, b4, b5, b6⟩ := h
  obtain ⟨A, B, g1, g2, g3, g4⟩ := OwL.cut hl h2
  exact ⟨⟨Ps, B, h1, g2, fun a p q => dj a p ((g4 a).mpr (.inr q)), fun a p => hp a (p.imp id fun q => (g4 a).mpr (.inr q))⟩, b1, b2, b3, b4, b5, b6⟩
theorem Rl.topN {ds : List D} {vs : List V} (hl : ds.length = vs.length) (h : Rl K T G F r (ds ++ t) σ (vs ++ tv) H) : LkL K T F H ds vs := by
  obtain ⟨⟨Ps, Pt, h1, h2, dj, hp⟩, _⟩ := h
  obtain ⟨A, B, g1, g2, g3, g4⟩ := OwL.cut hl h2
  exact g1.lk
theorem Rl.fresh (h : Rl K T G F r t σ tv H) {p : Addr} (hp : H p = none) : F p = none ∧ (G.P0 p ∨ G.H0 p = none) := by
  constructor
  · cases e : F p with
    | none => rfl
    | some o => rw [h.sub _ _ e] at hp; cases hp
  · by_cases q : G.P0 p
    · exact .inl q
    · refine .inr ?_
      cases e : G.H0 p with
      | none => rfl
      | some o => rw [h.keep _ _ e q] at hp; cases hp
/-- the temporaries on top become a new node -/
theorem Rl.alloc0 {k : Kn} (hk : ∀ c fs, k ≠ .ins c fs) {ds : List D} {vs : List V} (hl : ds.length = vs.length) (hf : k.fits vs.length ∧ k.noKey vs) (h : Rl K T G F r (ds ++ t) σ (vs ++ tv) H) {p : Addr} (hp : H p = none) :
    Rl K T G F r (.node true k ds :: t) σ (.ref p :: tv) (upd H p (objOf 0 p k vs)) := by
  obtain ⟨fp, gp⟩ := h.fresh hp
  obtain ⟨⟨Ps, Pt, h1, h2, dj, hq⟩, b1, b2, b3, b4, b5, b6⟩ := h
  obtain ⟨A, B, g1, g2, g3, g4⟩ := OwL.cut hl h2
  have s := same_upd (o := objOf 0 p k vs) hp
  have st : ∀ a, (∃ o, H a = some o) → upd H p (objOf 0 p k vs) a = H a := fun a ⟨o, e⟩ => upd_ne (ne_of_none e hp)
  have np : ∀ {Q : Ft}, (∀ a, Q a → F a = none ∧ ∃ o, H a = some o) → ¬ Q p := fun hQ z => by
    obtain ⟨_, o, e⟩ := hQ p z
    rw [hp] at e; cases e
  have nA := np fun a z => g1.at z
  have nB := np fun a z => g2.at z
  have nS := np fun a z => h1.at z
  refine ⟨⟨Ps, fun a => ((a = p ∨ a = p) ∨ A a) ∨ B a, h1.frame (Same.refl _) (fun a z => st a (h1.at z).2) fun a z => (h1.at z).1, ?_, ?_, ?_⟩, b1.trans s, fun a o e n => s _ _ (b2 a o e n), b3, b4, b5, tabs_same b6 s⟩
  · refine .cons (P1 := fun a => (a = p ∨ a = p) ∨ A a) (P2 := B) (.own (dx := p) ⟨hf, 0, upd_same, ?_⟩ (g1.frame (Same.refl _) (fun a z => st a (g1.at z).2) fun a z => (g1.at z).1) nA nA fp fp fun _ => Iff.rfl)
      (g2.frame (Same.refl _) (fun a z => st a (g2.at z).2) fun a z => (g2.at z).1) (fun a z q => ?_) fun _ => Iff.rfl
    · cases k with
      | ins c fs => exact (hk c fs rfl).elim
      | _ => rfl
    · rcases z with (rfl | rfl) | z
      · exact nB q
      · exact nB q
      · exact g3 a z q
  · intro a z q
    rcases q with ((rfl | rfl) | q) | q
    · exact nS z
    · exact nS z
    · exact dj a z ((g4 a).mpr (.inl q))
    · exact dj a z ((g4 a).mpr (.inr q))
  · intro a z
    rcases z with z | ((rfl | rfl) | z) | z
    · exact hq a (.inl z)
    · exact gp
    · exact gp
    · exact hq a (.inr ((g4 a).mpr (.inl z)))
    · exact hq a (.inr ((g4 a).mpr (.inr z)))
theorem Rl.alloc {k : Kn} (hk : ∀ c fs, k ≠ .ins c fs) {ds : List D} {vs : List V} (hl : ds.length = vs.length) (hf : k.fitsW vs.length) (h : Rl K T G F r (ds ++ t) σ (vs ++ tv) H) {p : Addr} (hp : H p = none) :
    Rl K T G F r (.node true k ds :: t) σ (.ref p :: tv) (upd H p (objOf 0 p k vs)) := Rl.alloc0 hk hl ⟨hf.fits, hf.noKey⟩ h hp
/-- an owned tuple that is no key -/
theorem Rl.allocT {ds : List D} {vs : List V} (hl : ds.length = vs.length) (e : ds.all D.keyLf = false) (h : Rl K T G F r (ds ++ t) σ (vs ++ tv) H) {p : Addr} (hp : H p = none) :
    Rl K T G F r (.node true .tup ds :: t) σ (.ref p :: tv) (upd H p (.tup vs)) := Rl.alloc0 (k := .tup) (fun _ _ z => nomatch z) hl ⟨trivial, by
      obtain ⟨⟨Ps, Pt, h1, h2, dj, hq⟩, b1, b2, b3, b4, b5, b6⟩ := h
      obtain ⟨A, B, g1, g2, g3, g4⟩ := OwL.cut hl h2
      exact g1.noKey e⟩ h hp
/-- a new frozen node -/
theorem Rl.allocF {k : Kn} (hk : ∀ c fs, k ≠ .ins c fs) {ds : List D} {vs : List V} (hf : k.fits vs.length) (fz : FzL K T F ds vs) (h : Rl K T G F r t σ tv H) {p : Addr} (hp : H p = none) :
    Same F (upd F p (objOf 0 p k vs)) ∧ Rl K T G (upd F p (objOf 0 p k vs)) r (.node false k ds :: t) σ (.ref p :: tv) (upd H p (objOf 0 p k vs)) := by
  obtain ⟨fp, gp⟩ := h.fresh hp
  have sF : Same F (upd F p (objOf 0 p k vs)) := same_upd fp
  refine ⟨sF, ?_⟩
  have s := same_upd (o := objOf 0 p k vs) hp
  obtain ⟨⟨Ps, Pt, h1, h2, dj, hq⟩, b1, b2, b3, b4, b5, b6⟩ := h
  have st : ∀ a, (∃ o, H a = some o) → upd H p (objOf 0 p k vs) a = H a := fun a ⟨o, e⟩ => upd_ne (ne_of_none e hp)
  have stF : ∀ a, (∃ o, H a = some o) → upd F p (objOf 0 p k vs) a = F a := fun a ⟨o, e⟩ => upd_ne (ne_of_none e hp)
  have nf : NodeF K T (upd F p (objOf 0 p k vs)) p k vs := by
    refine ⟨hf, ?_⟩
    cases k with
    | lst => exact .inl (.inl upd_same)
    | tup => exact upd_same
    | dic ks => exact .inl upd_same
    | dit ks => exact .inl upd_same
    | ins c fs => exact (hk c fs rfl).elim
  have h1' := h1.frame sF (fun a z => st a (h1.at z).2) fun a z => (stF a (h1.at z).2).trans (h1.at z).1
  have h2' := h2.frame sF (fun a z => st a (h2.at z).2) fun a z => (stF a (h2.at z).2).trans (h2.at z).1
  refine ⟨⟨Ps, Pt, h1', .cons (P1 := fun _ => False) (.fz_emp (.node nf (fz.mono sF)) fun _ z => z) h2' (fun _ z => z.elim) fun a => ⟨.inr, fun z => z.elim False.elim id⟩, dj, hq⟩, fun a o e => ?_, fun a o e n => s _ _ (b2 a o e n), fun a o e => ?_, b4.trans sF, b5, b6.gen (fun a o e _ => s a o e) fun a o e => by
    by_cases z : a = p
    · exact .inr (.inl (by rw [z]; exact hp))
    · rw [upd_ne z] at e; exact .inl e⟩
  · by_cases z : a = p
    · subst z
      rw [upd_same] at e
      rw [upd_same]; exact e
    · rw [upd_ne z] at e
      rw [upd_ne z]; exact b1 _ _ e
  · by_cases z : a = p
    · subst z
      exact .inr (gp.imp id .inl)
    · rw [upd_ne z] at e
      exact b3 a o e
/-- the top temporary is frozen -/
theorem Rl.freeze {d : D} {v : V} (h : Rl K T G F r (d :: t) σ (v :: tv) H) : ∃ F', Same F F' ∧ Rl K T G F' r (d.frz :: t) σ (v :: tv) H ∧ Fz K T F' d.frz v := by
  obtain ⟨⟨Ps, Pt, h1, h2, dj, hq⟩, b1, b2, b3, b4, b5, b6⟩ := h
  cases h2 with
  | @cons _ _ _ _ _ A B o g2 dj2 un =>
    have sF : Same F (ovr A H F) := fun a u e => by
      by_cases z : A a
      · rw [(o.at z).1] at e; cases e
      · rw [ovr_out z]; exact e
    have at1 : ∀ a, A a → (ovr A H F) a = H a := fun a z => ovr_in z
    have at0 : ∀ a, ¬ A a → (ovr A H F) a = F a := fun a z => ovr_out z
    have fz := o.freeze sF at1
    refine ⟨_, sF, ⟨⟨Ps, B, h1.frame sF (fun _ _ => rfl) (fun a z => ?_), ?_, fun a p q => dj a p ((un a).mpr (.inr q)), fun a p => hq a (p.imp id fun q => (un a).mpr (.inr q))⟩, ?_, b2, ?_, b4.trans sF, b5, b6.gen (fun _ _ e _ => e) fun a u e => by
      by_cases z : A a
      · obtain ⟨_, w, ew⟩ := o.at z
        exact .inr (.inr ⟨w, ew, Ow.plain_both.1 _ _ _ o a w z ew⟩)
      · rw [at0 a z] at e; exact .inl e⟩, fz⟩
    · rw [at0 a fun w => dj a z ((un a).mpr (.inl w))]; exact (h1.at z).1
    · refine .cons (P1 := fun _ => False) (.fz_emp fz fun _ z => z) (g2.frame sF (fun _ _ => rfl) fun a z => ?_) (fun _ z => z.elim) fun a => ⟨.inr, fun z => z.elim False.elim id⟩
      rw [at0 a fun w => dj2 a w z]; exact (g2.at z).1
    · intro a u e
      by_cases z : A a
      · rw [at1 a z] at e; exact e
      · rw [at0 a z] at e; exact b1 _ _ e
    · intro a u e
      by_cases z : A a
      · exact .inr ((hq a (.inr ((un a).mpr (.inl z)))).imp id .inl)
      · rw [at0 a z] at e; exact b3 _ _ e
/-- a slot's data goes into a temporary -/
theorem Rl.take (h : Rl K T G F r t σ tv H) {i : Nat} {d : D} (e : r[i]? = some (some d)) : ∃ v, σ[i]? = some (some v) ∧ Rl K T G F (r.set i none) (d :: t) σ (v :: tv) H := by
  obtain ⟨⟨Ps, Pt, h1, h2, dj, hq⟩, b1, b2, b3, b4, b5, b6⟩ := h
  obtain ⟨v, P1, P2, ev, o, dj1, un1, give, _⟩ := h1.focus e
  exact ⟨v, ev, ⟨⟨P2, fun a => P1 a ∨ Pt a, give, .cons o h2 (fun a p q => dj a ((un1 a).mpr (.inl p)) q) fun _ => Iff.rfl, fun a p q => by
    rcases q with q | q
    · exact dj1 a q p
    · exact dj a ((un1 a).mpr (.inr p)) q, fun a p => by
    rcases p with p | p | p
    · exact hq a (.inl ((un1 a).mpr (.inr p)))
    · exact hq a (.inl ((un1 a).mpr (.inl p)))
    · exact hq a (.inr p)⟩, b1, b2, b3, b4, b5, b6⟩⟩
/-- the top temporary goes into a slot -/
theorem Rl.put {d : D} {v : V} (h : Rl K T G F r (d :: t) σ (v :: tv) H) {i : Nat} (hi : i < r.length) (hp : ∀ w, G.pin i = some w → v = w) : Rl K T G F (r.set i (some d)) t (σ.set i (some v)) tv H := by
  obtain ⟨⟨Ps, Pt, h1, h2, dj, hq⟩, b1, b2, b3, b4, b5, b6⟩ := h
  cases h2 with
  | @cons _ _ _ _ _ A B o g2 dj2 un =>
    obtain ⟨P', g1, g3⟩ := h1.put hi o fun a p q => dj a q ((un a).mpr (.inl p))
    refine ⟨⟨P', B, g1, g2, fun a p q => ?_, fun a p => ?_⟩, b1, b2, b3, b4, fun j w e => ?_, b6⟩
    · rcases g3 a p with z | z
      · exact dj2 a z q
      · exact dj a z ((un a).mpr (.inr q))
    · rcases p with p | p
      · rcases g3 a p with z | z
        · exact hq a (.inr ((un a).mpr (.inl z)))
        · exact hq a (.inl z)
      · exact hq a (.inr ((un a).mpr (.inr p)))
    · by_cases hj : i = j
      · subst hj
        rw [List.getElem?_set_self (by rw [h1.length]; exact hi), hp w e]
      · rw [List.getElem?_set_ne hj]; exact b5 j w e
theorem Rl.slots (h : Rl K T G F r t σ tv H) : σ.length = r.length := h.st.elim fun _ x => x.elim fun _ y => y.1.length
theorem set_same {α : Type} {l : List α} {i : Nat} {a : α} (h : l[i]? = some a) : l.set i a = l := List.ext_getElem? fun j => by
  by_cases hj : i = j
  · subst hj; rw [List.getElem?_set_self (List.getElem?_eq_some_iff.mp h).1, h]
  · rw [List.getElem?_set_ne hj]
/-- a slot is looked at -/
theorem Rl.look (h : Rl K T G F r t σ tv H) {i : Nat} {d : D} (e : r[i]? = some (some d)) : ∃ v, σ[i]? = some (some v) ∧ Lk K T F H d v := by
  obtain ⟨v, ev, h'⟩ := h.take e
  exact ⟨v, ev, h'.top⟩
/-- a slot is frozen in its place -/
theorem Rl.freezeAt (h : Rl K T G F r t σ tv H) {i : Nat} {d : D} (e : r[i]? = some (some d)) : ∃ v F', σ[i]? = some (some v) ∧ Same F F' ∧ Rl K T G F' (r.set i (some d.frz)) t σ tv H ∧ Fz K T F' d.frz v := by
  obtain ⟨v, ev, h1⟩ := h.take e
  obtain ⟨F', s, h2, fz⟩ := h1.freeze
  have hi : i < (r.set i none).length := by rw [List.length_set]; exact (List.getElem?_eq_some_iff.mp e).1
  have h3 := h2.put hi fun w ew => by
    have := h.pin i w ew
    rw [ev] at this; exact Option.some.inj (Option.some.inj this)
  rw [List.set_set, set_same ev] at h3
  exact ⟨v, F', ev, s, h3, fz⟩
end
end
end VL

/-! VL4: the judgements; names, constants, operators, tests. -/
namespace VL
open PySem PySem.Spec L2

def R.sat {α : Type} (x : R α) (ok : α → VS → Prop) (ex : String → VS → Prop) : Prop := match x with
  | .ok a r => ok a r
  | .ex c r => ex c r
  | .no => False
theorem R.sat.mono {α : Type} {x : R α} {ok ok' : α → VS → Prop} {ex ex' : String → VS → Prop} (h : x.sat ok ex) (h1 : ∀ a r, ok a r → ok' a r) (h2 : ∀ c r, ex c r → ex' c r) : x.sat ok' ex' := by
  cases x with
  | ok a r => exact h1 a r h
  | ex c r => exact h2 c r h
  | no => exact h
theorem sat_bind {α β : Type} {m : M α} {k : α → M β} {r : VS} {ok : β → VS → Prop} {ex : String → VS → Prop} (h : (M.bind m k r).sat ok ex) : (m r).sat (fun a r' => (k a r').sat ok ex) ex := by
  unfold M.bind at h
  cases e : m r with
  | ok a r' => rw [e] at h; exact h
  | ex c r' => rw [e] at h; exact h
  | no => rw [e] at h; exact h
theorem sat_opt {α : Type} {o : Option α} {r : VS} {ok : α → VS → Prop} {ex : String → VS → Prop} (h : (M.opt o r).sat ok ex) : ∃ a, o = some a ∧ ok a r := by
  cases o with
  | none => exact h.elim
  | some a => exact ⟨a, rfl, h⟩
def D.bl? : D → Option Bool
  | .leaf (.bl b) => some b
  | _ => none
theorem D.bl?_eq {d : D} {b : Bool} (h : d.bl? = some b) : d = .bl b := by
  cases d with
  | leaf s => cases s <;> simp_all [D.bl?]
  | node o k ds => simp [D.bl?] at h

section
variable (K : PySem.W.Frag) (T : String → Option Addr) (G : Gm) (W : WX) (p : Bool)
/-- what is wanted where an exception leaves -/
def exP (σ : L2.St) (t : List D) (tv : List V) (F : Hp) : String → VS → Prop := fun c r' => ∀ C F' H', T c = some C → Same F F' → Rl K T G F' r' t σ tv H' → W (.ref C) none σ H'
/-- an expression: its value is a temporary -/
def tE (m : M D) : TE := fun σ H Q => ∃ F r t tv, Rl K T G F r t σ tv H ∧
  (m r).sat (fun d r' => ∀ v F' H', Same F F' → (p = true → Same H H') → Rl K T G F' r' (d :: t) σ (v :: tv) H' → Q v H') (exP K T G W σ t tv F)
/-- an expression whose value is looked at -/
def tB (m : M D) : TE := fun σ H Q => ∃ F r t tv, Rl K T G F r t σ tv H ∧
  (m r).sat (fun d r' => ∀ v F' H', Same F F' → (p = true → Same H H') → Rl K T G F' r' t σ tv H' → Lk K T F' H' d v → Q v H') (exP K T G W σ t tv F)
/-- a test -/
def tT (m : M Bool) : TT := fun σ H Q => ∃ F r t tv, Rl K T G F r t σ tv H ∧
  (m r).sat (fun b r' => ∀ F' H', Same F F' → (p = true → Same H H') → Rl K T G F' r' t σ tv H' → Q b H') (exP K T G W σ t tv F)
/-- arguments: temporaries -/
def tA (m : M (List D)) : TA := fun σ H Q => ∃ F r t tv, Rl K T G F r t σ tv H ∧
  (m r).sat (fun ds r' => ∀ vs F' H', Same F F' → (p = true → Same H H') → ds.length = vs.length → Rl K T G F' r' (ds ++ t) σ (vs ++ tv) H' → Q vs H') (exP K T G W σ t tv F)
/-- arguments that are looked at -/
def tAB (m : M (List D)) : TA := fun σ H Q => ∃ F r t tv, Rl K T G F r t σ tv H ∧
  (m r).sat (fun ds r' => ∀ vs F' H', Same F F' → (p = true → Same H H') → Rl K T G F' r' t σ tv H' → LkL K T F' H' ds vs → Q vs H') (exP K T G W σ t tv F)
end
/-- behind a statement -/
inductive Fl where
  | nx | rt (d : D) | bk | ct
section
variable (K : PySem.W.Frag) (T : String → Option Addr) (G : Gm) (W : WX)
def exS (t : List D) (tv : List V) (F : Hp) : String → VS → Prop := fun c r' => ∀ C σ' F' H', T c = some C → Same F F' → Rl K T G F' r' t σ' tv H' → W (.ref C) none σ' H'
def flS (B : Ends) (t : List D) (tv : List V) (F : Hp) : Fl → VS → Prop := fun f r' => ∀ σ' F' H', Same F F' → match f with
  | .nx => Rl K T G F' r' t σ' tv H' → B.nx σ' H'
  | .bk => Rl K T G F' r' t σ' tv H' → B.bk σ' H'
  | .ct => Rl K T G F' r' t σ' tv H' → B.ct σ' H'
  | .rt d => ∀ v, Rl K T G F' r' (d :: t) σ' (v :: tv) H' → B.rt v H'
def tS (m : M Fl) : TS := fun B σ H => ∃ F r t tv, Rl K T G F r t σ tv H ∧ (m r).sat (flS K T G B t tv F) (exS K T G W t tv F)
end

/-- the slots whose values stand; of some of them the value is told -/
structure Io where
  l : List Nat
  k : List (Nat × V)
  tb : List (Addr × Str)
def Pins (io : Io) (G : Gm) : Prop := (∀ j v, G.pin j = some v → j ∈ io.l) ∧ (∀ q ∈ io.k, G.pin q.1 = some q.2) ∧ G.tb = io.tb ∧ ∀ p ∈ io.tb, G.P0 p.1
section
variable (T : String → Option Addr) (io : Io) (X : Cx) (W : WX)
def QE (p : Bool) (e : Expr) (m : M D) : Prop := ∀ G, Pins io G → PE X e (tE X.K T G W p m)
def QB (p : Bool) (e : Expr) (m : M D) : Prop := ∀ G, Pins io G → PE X e (tB X.K T G W p m)
def QT (p : Bool) (e : Expr) (m : M Bool) : Prop := ∀ G, Pins io G → PT X e (tT X.K T G W p m)
def QW (p : Bool) (e : Expr) (m : M Bool) : Prop := ∀ G, Pins io G → PW X e (tT X.K T G W p m)
def QA (p : Bool) (es : List Expr) (m : M (List D)) : Prop := ∀ G, Pins io G → PA X es (tA X.K T G W p m)
def QAB (p : Bool) (es : List Expr) (m : M (List D)) : Prop := ∀ G, Pins io G → PA X es (tAB X.K T G W p m)
def QS (st : Stmt) (m : M Fl) : Prop := ∀ G, Pins io G → PS X st (tS X.K T G W m)
def QSs (st : List Stmt) (m : M Fl) : Prop := ∀ G, Pins io G → PSs X st (tS X.K T G W m)
end

theorem PE.imp {X : Cx} {e : Expr} {t t' : TE} (h : PE X e t) (i : ∀ σ H Q, t' σ H Q → t σ H Q) : PE X e t' := ⟨fun pins s σ H Q I q => h.run pins s σ H Q I (i σ H Q q)⟩
theorem PT.imp {X : Cx} {e : Expr} {t t' : TT} (h : PT X e t) (i : ∀ σ H Q, t' σ H Q → t σ H Q) : PT X e t' := ⟨fun pins s σ H Q I q => h.run pins s σ H Q I (i σ H Q q)⟩
theorem PW.imp {X : Cx} {e : Expr} {t t' : TT} (h : PW X e t) (i : ∀ σ H Q, t' σ H Q → t σ H Q) : PW X e t' := ⟨fun wh pins s σ H Q I q => h.run wh pins s σ H Q I (i σ H Q q)⟩
theorem PA.imp {X : Cx} {e : List Expr} {t t' : TA} (h : PA X e t) (i : ∀ σ H Q, t' σ H Q → t σ H Q) : PA X e t' := ⟨fun pos pins s σ H Q I q => h.run pos pins s σ H Q I (i σ H Q q)⟩
theorem PS.imp {X : Cx} {e : Stmt} {t t' : TS} (h : PS X e t) (i : ∀ B σ H, t' B σ H → t B σ H) : PS X e t' := ⟨fun pins s σ H B I q => h.run pins s σ H B I (i B σ H q)⟩
theorem PSs.imp {X : Cx} {e : List Stmt} {t t' : TS} (h : PSs X e t) (i : ∀ B σ H, t' B σ H → t B σ H) : PSs X e t' := ⟨fun pins s σ H B I q => h.run pins s σ H B I (i B σ H q)⟩
theorem exP.trans {K : PySem.W.Frag} {T : String → Option Addr} {G : Gm} {W : WX} {σ : L2.St} {t : List D} {tv : List V} {F F' : Hp} {c : String} {r : VS} (s : Same F F') (h : exP K T G W σ t tv F c r) : exP K T G W σ t tv F' c r :=
  fun C F2 H2 z s2 q => h C F2 H2 z (s.trans s2) q
theorem exS.trans {K : PySem.W.Frag} {T : String → Option Addr} {G : Gm} {W : WX} {t : List D} {tv : List V} {F F' : Hp} {c : String} {r : VS} (s : Same F F') (h : exS K T G W t tv F c r) : exS K T G W t tv F' c r :=
  fun C σ2 F2 H2 z s2 q => h C σ2 F2 H2 z (s.trans s2) q
theorem exS.toP {K : PySem.W.Frag} {T : String → Option Addr} {G : Gm} {W : WX} {σ : L2.St} {t : List D} {tv : List V} {F : Hp} {c : String} {r : VS} (h : exS K T G W t tv F c r) : exP K T G W σ t tv F c r :=
  fun C F2 H2 z s2 q => h C σ F2 H2 z s2 q
theorem flS.trans {K : PySem.W.Frag} {T : String → Option Addr} {G : Gm} {B : Ends} {t : List D} {tv : List V} {F F' : Hp} {f : Fl} {r : VS} (s : Same F F') (h : flS K T G B t tv F f r) : flS K T G B t tv F' f r := by
  intro σ2 F2 H2 s2
  have := h σ2 F2 H2 (s.trans s2)
  cases f <;> exact this

section
variable {T : String → Option Addr} {io : Io} {X : Cx} {W : WX} {p p1 p2 : Bool} {pos : Pos}

/-! ### constants, names -/
theorem qe_const {e : Expr} {s : Sc} {v : V} (h : PE X e (tC v)) (r : ScV s v) : QE T io X W true e (M.ret (.leaf s)) := fun G _ => PE.imp h fun σ H Q ⟨F, r0, t, tv, h1, h2⟩ => h2 v F H (Same.refl _) (fun _ => Same.refl _) (h1.push (.leaf r))
theorem qe_int {i : Int} {j} : QE T io X W true (.Constant (.int i) j pos) (M.ret (.int i)) := qe_const pe_int rfl
theorem qe_bl {b : Bool} {j} : QE T io X W true (.Constant (.bool b) j pos) (M.ret (.bl b)) := qe_const pe_bl rfl
theorem qe_non {j} : QE T io X W true (.Constant .none j pos) (M.ret .non) := qe_const pe_non rfl

/-- a slot's data -/
def slot? (i : Nat) (r : VS) : Option D := match r[i]? with
  | some (some d) => some d
  | _ => none
theorem slot?_eq {i : Nat} {r : VS} {d : D} (h : slot? i r = some d) : r[i]? = some (some d) := by
  unfold slot? at h
  split at h
  · rename_i e; cases h; exact e
  · cases h
/-- a name, frozen in its slot -/
def mVar (i : Nat) : M D := fun r => match slot? i r with
  | some d => if d.shr then .ok d r else .ok d.frz (r.set i (some d.frz))
  | none => .no
/-- a name, given up -/
def mMove (i : Nat) : M D := fun r => match slot? i r with
  | some d => .ok d (r.set i none)
  | none => .no
/-- a name, looked at -/
def mPeek (i : Nat) : M D := fun r => match slot? i r with
  | some d => .ok d r
  | none => .no
theorem qe_var {i : Nat} {x : Str} (hN : X.N[i]? = some x) (hv : Vis X.env.scope x) (hd : (x == ("__debug__" : Str)) = false := by decide) (hcd : (x == ("__classdict__" : Str)) = false := by decide) : QE T io X W true (.Name x pos) (mVar i) := fun G _ => PE.imp (pe_var hN hv hd hcd) fun σ H Q ⟨F, r0, t, tv, h1, h2⟩ => by
  unfold mVar at h2
  cases e : slot? i r0 with
  | none => simp only [e] at h2; exact h2.elim
  | some d =>
    simp only [e] at h2
    cases hs : d.shr with
    | true =>
      simp only [hs, if_true] at h2
      obtain ⟨v, ev, lk⟩ := h1.look (slot?_eq e)
      exact ⟨v, ev, h2 v F H (Same.refl _) (fun _ => Same.refl _) (h1.push (lk.shr hs))⟩
    | false =>
      simp only [hs, Bool.false_eq_true, if_false] at h2
      obtain ⟨v, F', ev, s, h3, fz⟩ := h1.freezeAt (slot?_eq e)
      exact ⟨v, ev, h2 v F' H s (fun _ => Same.refl _) (h3.push fz)⟩
theorem qe_move {i : Nat} {x : Str} (hN : X.N[i]? = some x) (hv : Vis X.env.scope x) (hd : (x == ("__debug__" : Str)) = false := by decide) (hcd : (x == ("__classdict__" : Str)) = false := by decide) : QE T io X W true (.Name x pos) (mMove i) := fun G _ => PE.imp (pe_var hN hv hd hcd) fun σ H Q ⟨F, r0, t, tv, h1, h2⟩ => by
  unfold mMove at h2
  cases e : slot? i r0 with
  | none => simp only [e] at h2; exact h2.elim
  | some d =>
    simp only [e] at h2
    obtain ⟨v, ev, h3⟩ := h1.take (slot?_eq e)
    exact ⟨v, ev, h2 v F H (Same.refl _) (fun _ => Same.refl _) h3⟩
theorem qb_peek {i : Nat} {x : Str} (hN : X.N[i]? = some x) (hv : Vis X.env.scope x) (hd : (x == ("__debug__" : Str)) = false := by decide) (hcd : (x == ("__classdict__" : Str)) = false := by decide) : QB T io X W true (.Name x pos) (mPeek i) := fun G _ => PE.imp (pe_var hN hv hd hcd) fun σ H Q ⟨F, r0, t, tv, h1, h2⟩ => by
  unfold mPeek at h2
  cases e : slot? i r0 with
  | none => simp only [e] at h2; exact h2.elim
  | some d =>
    simp only [e] at h2
    obtain ⟨v, ev, lk⟩ := h1.look (slot?_eq e)
    exact ⟨v, ev, h2 v F H (Same.refl _) (fun _ => Same.refl _) h1 lk⟩
theorem qb_of {e : Expr} {m : M D} (h : QE T io X W p e m) : QB T io X W p e m := fun G g => PE.imp (h G g) fun σ H Q ⟨F, r, t, tv, h1, h2⟩ =>
  ⟨F, r, t, tv, h1, h2.mono (fun d r' q v F' H' s1 s2 h3 => q v F' H' s1 s2 h3.drop h3.top) fun _ _ q => q⟩

/-! ### what an operator gives -/
/-- frozen data that stands, or a new node of frozen items -/
inductive Res (K : PySem.W.Frag) (T : String → Option Addr) (F H : Hp) : D → V → Hp → Prop
  | sh {d : D} {v : V} : Fz K T F d v → Res K T F H d v H
  | new {k : Kn} {ds : List D} {vs : List V} {a : Addr} : (∀ c fs, k ≠ .ins c fs) → k.fitsW vs.length → FzL K T F ds vs → H a = none → Res K T F H (.node true k ds) (.ref a) (upd H a (objOf 0 a k vs))
  | newF {k : Kn} {ds : List D} {vs : List V} {a : Addr} : (∀ c fs, k ≠ .ins c fs) → k.fits vs.length → FzL K T F ds vs → H a = none → Res K T F H (.node false k ds) (.ref a) (upd H a (objOf 0 a k vs))
  | key {ks : List Key} {q : Addr} : H q = some (.tup (ks.map kV)) → Res K T F H (ktD ks) (.ref q) H
  | newK {kss : List (List Key)} {qs : List Addr} {a : Addr} : Paired (fun (ks : List Key) q => H q = some (.tup (ks.map kV))) kss qs → H a = none → Res K T F H (.node true .lst (kss.map ktD)) (.ref a) (upd H a (.lst (qs.map V.ref)))
theorem fz_key {K : PySem.W.Frag} {T : String → Option Addr} {F : Hp} : ∀ ks : List Key, FzL K T F (ks.map keyD) (ks.map kV)
  | [] => .nil
  | .inl i :: ks => .cons (.leaf rfl) (fz_key ks)
  | .inr x :: ks => .cons (.leaf rfl) (fz_key ks)
/-- a key of a dict is frozen -/
theorem Rl.addKey {K : PySem.W.Frag} {T : String → Option Addr} {G : Gm} {F H : Hp} {r : VS} {t : List D} {σ : L2.St} {tv : List V} (h : Rl K T G F r t σ tv H) {q : Addr} {ks : List Key} (e : H q = some (.tup (ks.map kV))) :
    ∃ F', Same F F' ∧ Rl K T G F' r t σ tv H ∧ Fz K T F' (ktD ks) (.ref q) := by
  have sF : Same F (upd F q (.tup (ks.map kV))) := fun b o eb => by
    by_cases z : b = q
    · rw [z] at eb ⊢
      rw [h.sub q o eb] at e
      rw [upd_same]; exact e.symm
    · rw [upd_ne z]; exact eb
  refine ⟨_, sF, ?_, .node ⟨trivial, upd_same⟩ (fz_key ks)⟩
  obtain ⟨⟨Ps, Pt, h1, h2, dj, hq⟩, b1, b2, b3, b4, b5, b6⟩ := h
  have n1 : ∀ a, Ps a → a ≠ q := fun a z w => by
    rw [w] at z
    exact h1.noKT z e (kt_keys ks)
  have n2 : ∀ a, Pt a → a ≠ q := fun a z w => by
    rw [w] at z
    exact h2.noKT z e (kt_keys ks)
  refine ⟨⟨Ps, Pt, h1.frame sF (fun _ _ => rfl) fun a z => (upd_ne (n1 a z)).trans (h1.at z).1, h2.frame sF (fun _ _ => rfl) fun a z => (upd_ne (n2 a z)).trans (h2.at z).1, dj, hq⟩, fun a o ea => ?_, b2, fun a o ea => ?_, b4.trans sF, b5, b6.gen (fun _ _ e _ => e) fun a o ea => by
    by_cases z : a = q
    · exact .inr (.inr ⟨.tup (ks.map kV), by rw [z]; exact e, trivial⟩)
    · rw [upd_ne z] at ea; exact .inl ea⟩
  · by_cases z : a = q
    · rw [z] at ea ⊢
      rw [upd_same] at ea
      cases ea; exact e
    · rw [upd_ne z] at ea; exact b1 a o ea
  · by_cases z : a = q
    · rw [z, upd_same] at ea
      cases ea
      exact .inr (.inr (.inr (kt_keys ks)))
    · rw [upd_ne z] at ea; exact b3 a o ea
theorem Rl.addKeys {K : PySem.W.Frag} {T : String → Option Addr} {G : Gm} {H : Hp} {r : VS} {t : List D} {σ : L2.St} {tv : List V} : ∀ {kss : List (List Key)} {qs : List Addr} {F : Hp}, Rl K T G F r t σ tv H → Paired (fun (ks : List Key) q => H q = some (.tup (ks.map kV))) kss qs →
    ∃ F', Same F F' ∧ Rl K T G F' r t σ tv H ∧ FzL K T F' (kss.map ktD) (qs.map V.ref)
  | _, _, F, h, .nil => ⟨F, Same.refl _, h, .nil⟩
  | _, _, F, h, .cons e p => by
    obtain ⟨F1, s1, h1, f1⟩ := h.addKey e
    obtain ⟨F2, s2, h2, f2⟩ := Rl.addKeys h1 p
    exact ⟨F2, s1.trans s2, h2, .cons (f1.mono s2) f2⟩
theorem Rl.pushL {K : PySem.W.Frag} {G : Gm} {F H : Hp} {r : VS} {t : List D} {σ : L2.St} {tv : List V} (h : Rl K T G F r t σ tv H) : ∀ {ds : List D} {vs : List V}, FzL K T F ds vs → Rl K T G F r (ds ++ t) σ (vs ++ tv) H
  | [], _, f => by cases f; exact h
  | d :: ds, _, f => by cases f with | cons f1 f2 => exact (Rl.pushL h f2).push f1
theorem Rl.res {K : PySem.W.Frag} {G : Gm} {F H H' : Hp} {r : VS} {t : List D} {σ : L2.St} {tv : List V} {d : D} {v : V} (h : Rl K T G F r t σ tv H) (q : Res K T F H d v H') : ∃ F', Same F F' ∧ Rl K T G F' r (d :: t) σ (v :: tv) H' ∧ Same H H' := by
  cases q with
  | sh f => exact ⟨F, Same.refl _, h.push f, Same.refl _⟩
  | new k1 k2 f n => exact ⟨F, Same.refl _, Rl.alloc k1 f.length k2 (h.pushL f) n, same_upd n⟩
  | @newF k ds vs a k1 k2 f n =>
    obtain ⟨s, h2⟩ := Rl.allocF k1 k2 f h n
    exact ⟨_, s, h2, same_upd n⟩
  | key e =>
    obtain ⟨F1, s1, h1, f1⟩ := h.addKey e
    exact ⟨F1, s1, h1.push f1, Same.refl _⟩
  | newK e n =>
    obtain ⟨F1, s1, h1, f1⟩ := h.addKeys e
    exact ⟨F1, s1, Rl.alloc (k := .lst) (fun _ _ z => nomatch z) f1.length trivial (h1.pushL f1) n, same_upd n⟩
/-- a rule for looked-at operands, by its answer -/
def Un1 (K : PySem.W.Frag) (T : String → Option Addr) (f : D → Option D) (r : V → Hp → VK → Prop) : Prop := ∀ (F H : Hp) (d : D) (x : V) (d' : D) (Q : VK), f d = some d' → Same F H → Lk K T F H d x → (∀ v H', Res K T F H d' v H' → Q v H') → r x H Q
def Op2 (K : PySem.W.Frag) (T : String → Option Addr) (f : D → D → Option D) (r : R2) : Prop := ∀ (F H : Hp) (d e : D) (x y : V) (d' : D) (Q : VK), f d e = some d' → Same F H → Lk K T F H d x → Lk K T F H e y → (∀ v H', Res K T F H d' v H' → Q v H') → r x y H Q
def OpN (K : PySem.W.Frag) (T : String → Option Addr) (f : List D → Option D) (r : List V → Hp → VK → Prop) : Prop := ∀ (F H : Hp) (ds : List D) (xs : List V) (d' : D) (Q : VK), f ds = some d' → Same F H → LkL K T F H ds xs → (∀ v H', Res K T F H d' v H' → Q v H') → r xs H Q
def mOp1 (f : D → Option D) (a : M D) : M D := M.bind a fun x => M.opt (f x)
def mOp2 (f : D → D → Option D) (a b : M D) : M D := M.bind a fun x => M.bind b fun y => M.opt (f x y)
def mOpN (f : List D → Option D) (a : M (List D)) : M D := M.bind a fun x => M.opt (f x)

section
variable {K : PySem.W.Frag} {G : Gm} {σ : L2.St} {H : Hp} {Q : VK}
theorem imp1 {f : D → Option D} {r : V → Hp → VK → Prop} {a : M D} (hf : Un1 K T f r) (h : tE K T G W p (mOp1 f a) σ H Q) : tUn r (tB K T G W p a) σ H Q := by
  obtain ⟨F, r0, t, tv, h1, h2⟩ := h
  refine ⟨F, r0, t, tv, h1, (sat_bind h2).mono (fun d r' q v F' H' s1 s2 h3 lk => ?_) fun _ _ q => q⟩
  obtain ⟨d', e2, q⟩ := sat_opt q
  refine hf F' H' d v d' Q e2 h3.sub lk fun u H2 w => ?_
  obtain ⟨F2, s3, h4, s4⟩ := h3.res w
  exact q u F2 H2 (s1.trans s3) (fun z => (s2 z).trans s4) h4
theorem imp2 {f : D → D → Option D} {r : R2} {a b : M D} (hf : Op2 K T f r) (h : tE K T G W p (mOp2 f a b) σ H Q) : tOp r (tB K T G W p a) (tB K T G W true b) σ H Q := by
  obtain ⟨F, r0, t, tv, h1, h2⟩ := h
  refine ⟨F, r0, t, tv, h1, (sat_bind h2).mono (fun d r1 q v F1 H1 s1 s2 h3 lk => ?_) fun _ _ q => q⟩
  refine ⟨F1, r1, t, tv, h3, (sat_bind q).mono (fun d2 r2 q v2 F2 H2 s3 s4 h4 lk2 => ?_) fun _ _ q => q.trans s1⟩
  obtain ⟨d', e2, q⟩ := sat_opt q
  refine hf F2 H2 d d2 v v2 d' Q e2 h4.sub (lk.mono s3 (s4 rfl)) lk2 fun u H5 w => ?_
  obtain ⟨F3, s6, h5, s5⟩ := h4.res w
  exact q u F3 H5 ((s1.trans s3).trans s6) (fun z => ((s2 z).trans (s4 rfl)).trans s5) h5
theorem impN {f : List D → Option D} {r : List V → Hp → VK → Prop} {a : M (List D)} (hf : OpN K T f r) (h : tE K T G W p (mOpN f a) σ H Q) : tCB r (tAB K T G W p a) σ H Q := by
  obtain ⟨F, r0, t, tv, h1, h2⟩ := h
  refine ⟨F, r0, t, tv, h1, (sat_bind h2).mono (fun d r' q v F' H' s1 s2 h3 lk => ?_) fun _ _ q => q⟩
  obtain ⟨d', e2, q⟩ := sat_opt q
  refine hf F' H' d v d' Q e2 h3.sub lk fun u H2 w => ?_
  obtain ⟨F2, s3, h4, s4⟩ := h3.res w
  exact q u F2 H2 (s1.trans s3) (fun z => (s2 z).trans s4) h4
end

/-! ### operators -/
theorem qe_op2 {op : Operator} {r : R2} {f : D → D → Option D} {a b : Expr} {ma mb : M D} (ho : OpR X (binaryOp op) r) (hf : Op2 X.K T f r) (ha : QB T io X W p a ma) (hb : QB T io X W true b mb) : QE T io X W p (.BinOp a op b pos) (mOp2 f ma mb) :=
  fun G g => PE.imp (pe_op ho (ha G g) (hb G g)) fun _ _ _ h => imp2 hf h
theorem qe_un {op : UnaryOp} {r : V → Hp → VK → Prop} {f : D → Option D} {a : Expr} {ma : M D} (ho : UnR X (unaryOp op) r) (hf : Un1 X.K T f r) (ha : QB T io X W p a ma) : QE T io X W p (.UnaryOp op a pos) (mOp1 f ma) :=
  fun G g => PE.imp (pe_un ho (ha G g)) fun _ _ _ h => imp1 hf h
theorem qe_cmp {op : CmpOp} {r : R2} {f : D → D → Option D} {a b : Expr} {ma mb : M D} (ho : OpR X (compareOp op) r) (hf : Op2 X.K T f r) (ha : QB T io X W p a ma) (hb : QB T io X W true b mb) (hm : behindInMarks op b = false) : QE T io X W p (.Compare a [op] [b] pos) (mOp2 f ma mb) :=
  fun G g => PE.imp (pe_cmpR ho (ha G g) (hb G g) hm) fun _ _ _ h => imp2 hf h

/-! ### tests -/
def mTest (a : M D) : M Bool := M.bind a fun d => M.opt d.bl?
theorem impT {K : PySem.W.Frag} {G : Gm} {a : M D} {σ : L2.St} {H : Hp} {Q : Bool → Hp → Prop} (h : tT K T G W p (mTest a) σ H Q) : tB K T G W p a σ H fun x H1 => ∃ k, x = .bl k ∧ Q k H1 := by
  obtain ⟨F, r0, t, tv, h1, h2⟩ := h
  refine ⟨F, r0, t, tv, h1, (sat_bind h2).mono (fun d r' q v F' H' s1 s2 h3 lk => ?_) fun _ _ q => q⟩
  obtain ⟨b, e, q⟩ := sat_opt q
  rw [D.bl?_eq e] at lk
  cases lk with
  | leaf z => exact ⟨b, z, q F' H' s1 s2 h3⟩
theorem impTE {K : PySem.W.Frag} {G : Gm} {a : M D} {σ : L2.St} {H : Hp} {Q : Bool → Hp → Prop} (h : tT K T G W p (mTest a) σ H Q) : tE K T G W p a σ H fun x H1 => ∃ k, x = .bl k ∧ Q k H1 := by
  obtain ⟨F, r0, t, tv, h1, h2⟩ := impT h
  exact ⟨F, r0, t, tv, h1, h2.mono (fun d r' q v F' H' s1 s2 h3 => q v F' H' s1 s2 h3.drop h3.top) fun _ _ q => q⟩
theorem qt_of {e : Expr} {m : M D} (h : QB T io X W p e m) (he : ∀ whole, isTrue e X.env whole = (do let v ← whole; standAt e.pos; holding [v] (truthy v)) := by intro _; rfl) : QT T io X W p e (mTest m) :=
  fun G g => PT.imp (pt_val (h G g) he) fun _ _ _ h => impT h
theorem qt_cmp {op : CmpOp} {r : R2} {f : D → D → Option D} {a b : Expr} {ma mb : M D} (ho : OpR X (compareOp op) r) (hf : Op2 X.K T f r) (ha : QB T io X W p a ma) (hb : QB T io X W true b mb) (hm : behindInMarks op b = false) : QT T io X W p (.Compare a [op] [b] pos) (mTest (mOp2 f ma mb)) :=
  fun G g => PT.imp (pt_cmpR ho (ha G g) (hb G g) hm) fun σ H Q h => imp2 hf (impTE h)
def mNotT (a : M Bool) : M Bool := M.bind a fun b => M.ret (!b)
def mAndT (a b : M Bool) : M Bool := M.bind a fun x => if x = true then b else M.ret false
def mOrT (a b : M Bool) : M Bool := M.bind a fun x => if x = true then M.ret true else b
theorem andL {a b : Bool} (h : (a && b) = true) : a = true := by cases a <;> simp_all
theorem andR {a b : Bool} (h : (a && b) = true) : b = true := by cases a <;> simp_all
theorem qt_not {a : Expr} {ma : M Bool} (ha : QT T io X W p a ma) : QT T io X W p (.UnaryOp .Not a pos) (mNotT ma) := fun G g => PT.imp (pt_not (ha G g)) fun σ H Q ⟨F, r0, t, tv, h1, h2⟩ =>
  ⟨F, r0, t, tv, h1, (sat_bind h2).mono (fun d r' q F' H' s1 s2 h3 => q F' H' s1 s2 h3) fun _ _ q => q⟩
theorem qw_one_and {a : Expr} {ma : M Bool} (ha : QT T io X W p a ma) : QW T io X W p (.BoolOp .And [a] pos) ma := fun G g => pw_and1 (ha G g)
theorem qw_one_or {a : Expr} {ma : M Bool} (ha : QT T io X W p a ma) : QW T io X W p (.BoolOp .Or [a] pos) ma := fun G g => pw_or1 (ha G g)
theorem qw_and {a b : Expr} {rest : List Expr} {ma mb : M Bool} (ha : QT T io X W p1 a ma) (hb : QW T io X W p2 (.BoolOp .And (b :: rest) pos) mb) : QW T io X W (p1 && p2) (.BoolOp .And (a :: b :: rest) pos) (mAndT ma mb) := fun G g => PW.imp (pw_and (ha G g) (hb G g)) fun σ H Q ⟨F, r0, t, tv, h1, h2⟩ => by
  refine ⟨F, r0, t, tv, h1, (sat_bind h2).mono (fun c r1 q F' H' s1 s2 h3 => ?_) fun _ _ q => q⟩
  cases c with
  | false =>
    rw [if_neg Bool.false_ne_true] at q ⊢
    exact q F' H' s1 (fun z => s2 (andL z)) h3
  | true =>
    rw [if_pos rfl] at q ⊢
    exact ⟨F', r1, t, tv, h3, q.mono (fun b r' q F2 H2 s3 s4 h4 => q F2 H2 (s1.trans s3) (fun z => (s2 (andL z)).trans (s4 (andR z))) h4) fun _ _ q => q.trans s1⟩
theorem qw_or {a b : Expr} {rest : List Expr} {ma mb : M Bool} (ha : QT T io X W p1 a ma) (hb : QW T io X W p2 (.BoolOp .Or (b :: rest) pos) mb) : QW T io X W (p1 && p2) (.BoolOp .Or (a :: b :: rest) pos) (mOrT ma mb) := fun G g => PW.imp (pw_or (ha G g) (hb G g)) fun σ H Q ⟨F, r0, t, tv, h1, h2⟩ => by
  refine ⟨F, r0, t, tv, h1, (sat_bind h2).mono (fun c r1 q F' H' s1 s2 h3 => ?_) fun _ _ q => q⟩
  cases c with
  | true =>
    rw [if_pos rfl] at q ⊢
    exact q F' H' s1 (fun z => s2 (andL z)) h3
  | false =>
    rw [if_neg Bool.false_ne_true] at q ⊢
    exact ⟨F', r1, t, tv, h3, q.mono (fun b r' q F2 H2 s3 s4 h4 => q F2 H2 (s1.trans s3) (fun z => (s2 (andL z)).trans (s4 (andR z))) h4) fun _ _ q => q.trans s1⟩
theorem QW.qt {e : Expr} {m : M Bool} (h : QW T io X W p e m) : QT T io X W p e m := fun G g => (h G g).pt
/-- as values: True and False alone -/
def mAnd (a b : M D) : M D := M.bind a fun x => M.bind (M.opt x.bl?) fun c => if c = true then b else M.ret (.bl false)
def mOr (a b : M D) : M D := M.bind a fun x => M.bind (M.opt x.bl?) fun c => if c = true then M.ret (.bl true) else b
def mNot (a : M D) : M D := M.bind a fun x => M.bind (M.opt x.bl?) fun c => M.ret (.bl (!c))
/-- a if t else b -/
def mIf (c : M Bool) (a b : M D) : M D := M.bind c fun x => if x = true then a else b
end
end VL

/-! VL5: arguments, displays, statements, loops. -/
namespace VL
open PySem PySem.Spec L2

def M.ck (c : Bool) : M Unit := fun r => if c = true then .ok () r else .no
theorem sat_ck {c : Bool} {r : VS} {ok : Unit → VS → Prop} {ex : String → VS → Prop} (h : (M.ck c r).sat ok ex) : c = true ∧ ok () r := by
  unfold M.ck at h
  split at h
  · rename_i e; exact ⟨e, h⟩
  · exact h.elim
section
variable {T : String → Option Addr} {io : Io} {X : Cx} {W : WX} {p p1 p2 : Bool} {pos : Pos}

/-! ### arguments -/
def mNil : M (List D) := M.ret []
def mCons (a : M D) (b : M (List D)) : M (List D) := M.bind a fun d => M.bind b fun ds => M.ret (d :: ds)
theorem qa_nil : QA T io X W true [] mNil := fun G _ => PA.imp pa_nil fun σ H Q ⟨F, r, t, tv, h1, h2⟩ => h2 [] F H (Same.refl _) (fun _ => Same.refl _) rfl h1
theorem qa_cons {e : Expr} {es : List Expr} {a : M D} {b : M (List D)} (ha : QE T io X W p1 e a) (hb : QA T io X W p2 es b) (hs : starEach (e :: es) X.env = (false, eval e X.env) :: starEach es X.env := by rfl) : QA T io X W (p1 && p2) (e :: es) (mCons a b) :=
  fun G g => PA.imp (pa_cons (ha G g) (hb G g) hs) fun σ H Q ⟨F, r, t, tv, h1, h2⟩ => by
    refine ⟨F, r, t, tv, h1, (sat_bind h2).mono (fun d r1 q v F1 H1 s1 s2 h3 => ?_) fun _ _ q => q⟩
    refine ⟨F1, r1, d :: t, v :: tv, h3, (sat_bind q).mono (fun ds r2 q vs F2 H2 s3 s4 hl h4 => ?_) fun c r' q => ?_⟩
    · exact q (v :: vs) F2 H2 (s1.trans s3) (fun z => (s2 (andL z)).trans (s4 (andR z))) (by simp [hl]) (Rl.lift hl h4)
    · exact fun C F2 H2 z s3 h4 => q C F2 H2 z (s1.trans s3) h4.drop
theorem qab_nil : QAB T io X W true [] mNil := fun G _ => PA.imp pa_nil fun σ H Q ⟨F, r, t, tv, h1, h2⟩ => h2 [] F H (Same.refl _) (fun _ => Same.refl _) h1 .nil
theorem qab_cons {e : Expr} {es : List Expr} {a : M D} {b : M (List D)} (ha : QB T io X W p e a) (hb : QAB T io X W true es b) (hs : starEach (e :: es) X.env = (false, eval e X.env) :: starEach es X.env := by rfl) : QAB T io X W p (e :: es) (mCons a b) :=
  fun G g => PA.imp (pa_cons (ha G g) (hb G g) hs) fun σ H Q ⟨F, r, t, tv, h1, h2⟩ => by
    refine ⟨F, r, t, tv, h1, (sat_bind h2).mono (fun d r1 q v F1 H1 s1 s2 h3 lk => ?_) fun _ _ q => q⟩
    refine ⟨F1, r1, t, tv, h3, (sat_bind q).mono (fun ds r2 q vs F2 H2 s3 s4 h4 lks => ?_) fun c r' q => q.trans s1⟩
    exact q (v :: vs) F2 H2 (s1.trans s3) (fun z => (s2 z).trans (s4 rfl)) h4 (.cons (lk.mono s3 (s4 rfl)) lks)

/-! ### displays -/
theorem keyLf_shr (d : D) (h : d.keyLf = true) : d.shr = true := by
  cases d with
  | leaf s => rfl
  | node o k ds => cases h
theorem all_imp {α : Type} {p q : α → Bool} (h : ∀ a, p a = true → q a = true) {l : List α} (e : l.all p = true) : l.all q = true := by
  rw [List.all_eq_true] at e ⊢
  exact fun a ha => h a (e a ha)
def mLst (a : M (List D)) : M D := M.bind a fun ds => M.bind (M.ck (decide (ds.length ≤ sizeLine))) fun _ => M.ret (.lst true ds)
theorem qe_lst {es : List Expr} {a : M (List D)} (h : QA T io X W p es a) : QE T io X W p (.List es pos) (mLst a) := fun G g => PE.imp (pe_lst (h G g)) fun σ H Q ⟨F, r, t, tv, h1, h2⟩ => by
  refine ⟨F, r, t, tv, h1, (sat_bind h2).mono (fun ds r1 q vs F1 H1 s1 s2 hl h3 => ?_) fun _ _ q => q⟩
  obtain ⟨hz, q⟩ := sat_ck (sat_bind q)
  refine ⟨by rw [← hl]; exact of_decide_eq_true hz, fun a ha => ?_⟩
  exact q (.ref a) F1 _ s1 (fun z => (s2 z).trans (same_upd ha)) (Rl.alloc (k := .lst) (fun _ _ z => nomatch z) hl trivial h3 ha)
/-- a tuple whose items may be shared is frozen at once -/
def mTup (a : M (List D)) : M D := M.bind a fun ds => M.bind (M.ck (decide (ds.length ≤ sizeLine))) fun _ => M.ret (.tup (!ds.all D.shr) ds)
theorem qe_tup {es : List Expr} {x1} {a : M (List D)} (h : QA T io X W p es a) : QE T io X W p (.Tuple es x1 pos) (mTup a) := fun G g => PE.imp (pe_tup (h G g)) fun σ H Q ⟨F, r, t, tv, h1, h2⟩ => by
  refine ⟨F, r, t, tv, h1, (sat_bind h2).mono (fun ds r1 q vs F1 H1 s1 s2 hl h3 => ?_) fun _ _ q => q⟩
  obtain ⟨hz, q⟩ := sat_ck (sat_bind q)
  refine ⟨by rw [← hl]; exact of_decide_eq_true hz, fun a ha => ?_⟩
  cases e : ds.all D.shr with
  | false =>
    rw [e] at q
    exact q (.ref a) F1 _ s1 (fun z => (s2 z).trans (same_upd ha)) (Rl.allocT hl (by
      cases e2 : ds.all D.keyLf with
      | false => rfl
      | true => rw [all_imp keyLf_shr e2] at e; exact e) h3 ha)
  | true =>
    rw [e] at q
    have fz := (Rl.topN hl h3).shr e
    obtain ⟨s3, h5⟩ := Rl.allocF (k := .tup) (fun _ _ z => nomatch z) trivial fz (h3.dropN hl) ha
    exact q (.ref a) _ _ (s1.trans s3) (fun z => (s2 z).trans (same_upd ha)) h5

/-! ### stores -/
/-- a target takes data -/
abbrev Gt := D → VS → Option VS
abbrev Gts := List D → VS → Option VS
/-- sl: the slots that it may turn -/
def Off (sl : List Nat) (σ σ' : L2.St) : Prop := σ'.length = σ.length ∧ ∀ j, j ∉ sl → σ'[j]? = σ[j]?
theorem Off.refl {sl : List Nat} {σ : L2.St} : Off sl σ σ := ⟨rfl, fun _ _ => rfl⟩
theorem Off.trans {sl sl' : List Nat} {σ σ1 σ2 : L2.St} (a : Off sl σ σ1) (b : Off sl' σ1 σ2) : Off (sl ++ sl') σ σ2 := ⟨b.1.trans a.1, fun j h => (b.2 j fun z => h (List.mem_append.mpr (.inr z))).trans (a.2 j fun z => h (List.mem_append.mpr (.inl z)))⟩
theorem Off.set {i : Nat} {σ : L2.St} {x : Option V} : Off [i] σ (σ.set i x) := ⟨by simp, fun j h => List.getElem?_set_ne fun z => h (by simp [z])⟩
def tG (K : PySem.W.Frag) (T : String → Option Addr) (G : Gm) (sl : List Nat) (pg : Bool) (m : Gt) : TG := fun v σ H Q => ∃ F r t tv d r', Rl K T G F r (d :: t) σ (v :: tv) H ∧ m d r = some r' ∧ ∀ σ' F' H', Off sl σ σ' → Same F F' → (pg = true → Same H H') → Rl K T G F' r' t σ' tv H' → Q σ' H'
def tGs (K : PySem.W.Frag) (T : String → Option Addr) (G : Gm) (sl : List Nat) (pg : Bool) (m : Gts) : TGs := fun vs σ H Q => ∃ F r t tv ds r', ds.length = vs.length ∧ Rl K T G F r (ds ++ t) σ (vs ++ tv) H ∧ m ds r = some r' ∧ ∀ σ' F' H', Off sl σ σ' → Same F F' → (pg = true → Same H H') → Rl K T G F' r' t σ' tv H' → Q σ' H'
def QG (T : String → Option Addr) (io : Io) (X : Cx) (sl : List Nat) (pg : Bool) (tg : Expr) (m : Gt) : Prop := ∀ G, Pins io G → PG X tg (tG X.K T G sl pg m)
def QGs (T : String → Option Addr) (io : Io) (X : Cx) (sl : List Nat) (pg : Bool) (tg : List Expr) (m : Gts) : Prop := ∀ G, Pins io G → PGs X tg (tGs X.K T G sl pg m)
theorem PG.imp {X : Cx} {e : Expr} {t t' : TG} (h : PG X e t) (i : ∀ v σ H Q, t' v σ H Q → t v σ H Q) : PG X e t' := ⟨fun pins s σ H x u Q I r q => h.run pins s σ H x u Q I r (i x σ H Q q)⟩
theorem PGs.imp {X : Cx} {e : List Expr} {t t' : TGs} (h : PGs X e t) (i : ∀ v σ H Q, t' v σ H Q → t v σ H Q) : PGs X e t' := ⟨fun pins s σ H x u Q I r q => h.run pins s σ H x u Q I r (i x σ H Q q)⟩
def gPut (i : Nat) : Gt := fun d r => if i < r.length then some (r.set i (some d)) else none
theorem qg_name {i : Nat} {x : Str} (hN : X.N.Nodup) (hi : X.N[i]? = some x) (hx : Loc X.env.scope x) (hio : i ∉ io.l) (hf : X.fn x = true ∨ X.env.scope.names.lookup x = some .local := by first | exact .inl rfl | exact .inr rfl | assumption) : QG T io X [i] true (.Name x pos) (gPut i) :=
  fun G g => PG.imp (pg_name hN hi hx hf) fun v σ H Q ⟨F, r, t, tv, d, r', h1, h2, h3⟩ => by
    unfold gPut at h2
    split at h2
    · rename_i hl
      cases h2
      exact h3 _ F H Off.set (Same.refl _) (fun _ => Same.refl _) (h1.put hl fun w e => absurd (g.1 i w e) hio)
    · cases h2
def gNilM : Gts := fun ds r => match ds with
  | [] => some r
  | _ => none
def gConsM (a : Gt) (b : Gts) : Gts := fun ds r => match ds with
  | d :: ds => (a d r).bind fun r' => b ds r'
  | [] => none
theorem qgs_nil : QGs T io X [] true [] gNilM := fun G g => PGs.imp pgs_nil fun vs σ H Q ⟨F, r, t, tv, ds, r', hl, h1, h2, h3⟩ => by
  cases ds with
  | nil =>
    cases vs with
    | nil =>
      cases h2
      exact ⟨rfl, h3 σ F H Off.refl (Same.refl _) (fun _ => Same.refl _) h1⟩
    | cons _ _ => simp at hl
  | cons d ds => cases h2
theorem qgs_cons {e : Expr} {es : List Expr} {a : Gt} {b : Gts} {sl sl' : List Nat} {pg pg' : Bool} (ha : QG T io X sl pg e a) (hb : QGs T io X sl' pg' es b) (hs : (assignEach (e :: es) X.env).map (·.2) = assign e X.env :: (assignEach es X.env).map (·.2) := by rfl) : QGs T io X (sl ++ sl') (pg && pg') (e :: es) (gConsM a b) := fun G g => PGs.imp (pgs_cons (ha G g) (hb G g) hs) fun vs σ H Q ⟨F, r, t, tv, ds, r', hl, h1, h2, h3⟩ => by
  cases ds with
  | nil => cases h2
  | cons d ds =>
    cases vs with
    | nil => simp at hl
    | cons v vs =>
      simp only [gConsM] at h2
      cases e1 : a d r with
      | none => rw [e1] at h2; cases h2
      | some r1 =>
        rw [e1] at h2
        refine ⟨v, vs, rfl, F, r, ds ++ t, vs ++ tv, d, r1, h1, e1, fun σ' F' H' o1 s1 z1 h4 => ?_⟩
        exact ⟨F', r1, t, tv, ds, r', by simpa using hl, h4, h2, fun σ2 F2 H2 o2 s2 z2 h5 => h3 σ2 F2 H2 (o1.trans o2) (s1.trans s2) (fun z => (z1 (andL z)).trans (z2 (andR z))) h5⟩
/-- the items of a node on top -/
theorem Rl.open {K : PySem.W.Frag} {G : Gm} {F H : Hp} {r : VS} {t : List D} {σ : L2.St} {tv : List V} {o : Bool} {k : Kn} {ds : List D} {v : V} (h : Rl K T G F r (.node o k ds :: t) σ (v :: tv) H) :
    ∃ a vs, v = .ref a ∧ NodeF K T H a k vs ∧ ds.length = vs.length ∧ Rl K T G F r (ds ++ t) σ (vs ++ tv) H := by
  obtain ⟨⟨Ps, Pt, h1, h2, dj, hq⟩, b1, b2, b3, b4, b5, b6⟩ := h
  cases h2 with
  | @cons _ _ _ _ _ A B o g2 dj2 un =>
    cases o with
    | fz hz he =>
      cases hz with
      | @node a k vs ds hn hl =>
        have base : Rl K T G F r t σ tv H := ⟨⟨Ps, B, h1, g2, fun a p q => dj a p ((un a).mpr (.inr q)), fun a p => hq a (p.imp id fun q => (un a).mpr (.inr q))⟩, b1, b2, b3, b4, b5, b6⟩
        exact ⟨a, vs, rfl, hn.mono b1, hl.length, base.pushL hl⟩
    | @own a dx k vs ds _ P0 hn hl n1 n2 f1 f2 hp =>
      refine ⟨a, vs, rfl, hn.toF, hl.length, ⟨Ps, fun b => P0 b ∨ B b, h1, OwL.join hl g2 (fun b p q => dj2 b ((hp b).mpr (.inr p)) q) fun _ => Iff.rfl, fun b p q => ?_, fun b p => ?_⟩, b1, b2, b3, b4, b5, b6⟩
      · rcases q with q | q
        · exact dj b p ((un b).mpr (.inl ((hp b).mpr (.inr q))))
        · exact dj b p ((un b).mpr (.inr q))
      · rcases p with p | p | p
        · exact hq b (.inl p)
        · exact hq b (.inr ((un b).mpr (.inl ((hp b).mpr (.inr p)))))
        · exact hq b (.inr ((un b).mpr (.inr p)))
def tup? (n : Nat) : D → Option (List D)
  | .node _ .tup ds => if ds.length = n then some ds else none
  | _ => none
theorem tup?_eq {n : Nat} {d : D} {ds : List D} (h : tup? n d = some ds) : ∃ o, d = .node o .tup ds ∧ ds.length = n := by
  cases d with
  | leaf s => cases h
  | node o k es =>
    cases k <;> simp [tup?] at h
    exact ⟨o, by rw [h.2], by rw [← h.2]; exact h.1⟩
def gTupM (n : Nat) (m : Gts) : Gt := fun d r => (tup? n d).bind fun ds => m ds r
theorem qg_tup {es : List Expr} {k : Nat} {n : Nat} {m : Gts} {sl : List Nat} {pg : Bool} (hc : X.calm = true) (h : QGs T io X sl pg es m) (hn : (assignEach es X.env).length = n := by rfl) (hst : (assignEach es X.env).findIdx? (·.1) = none := by rfl) : QG T io X sl pg (.Tuple es k pos) (gTupM n m) :=
  fun G g => PG.imp (pg_tup hc (h G g) hn hst) fun v σ H Q ⟨F, r, t, tv, d, r', h1, h2, h3⟩ => by
    unfold gTupM at h2
    cases e : tup? n d with
    | none => rw [e] at h2; cases h2
    | some ds =>
      rw [e] at h2
      obtain ⟨o, rfl, hl⟩ := tup?_eq e
      obtain ⟨a, vs, rfl, hn, hlv, h4⟩ := h1.open
      exact ⟨a, vs, rfl, hn.sqT, by rw [← hlv]; exact hl, F, r, t, tv, ds, r', hlv, h4, h2, h3⟩

/-! ### statements -/
def mTo (g : Gt) (d : D) : M Fl := fun r => match g d r with
  | some r' => .ok .nx r'
  | none => .no
def mAsg (a : M D) (g : Gt) : M Fl := M.bind a (mTo g)
def mDrop (a : M D) : M Fl := M.bind a fun _ => M.ret .nx
def mRet (a : M D) : M Fl := M.bind a fun d => M.ret (.rt d)
def mSeq (a b : M Fl) : M Fl := M.bind a fun f => match f with
  | .nx => b
  | .rt d => M.ret (.rt d)
  | .bk => M.ret .bk
  | .ct => M.ret .ct
def mIfS (c : M Bool) (a b : M Fl) : M Fl := M.bind c fun x => if x = true then a else b
theorem sat_to {g : Gt} {d : D} {r : VS} {ok : Fl → VS → Prop} {ex : String → VS → Prop} (h : (mTo g d r).sat ok ex) : ∃ r', g d r = some r' ∧ ok .nx r' := by
  unfold mTo at h
  cases e : g d r with
  | none => rw [e] at h; exact h.elim
  | some r' => rw [e] at h; exact ⟨r', rfl, h⟩
theorem qs_asg {tg e : Expr} {a : M D} {g : Gt} {sl : List Nat} {pg : Bool} (he : QE T io X W p e a) (hg : QG T io X sl pg tg g) (hs : swapsWithSole [tg] e pos.line X.env = pure false := by rfl) (hw : swappedStores [tg] e X.env = pure none := by rfl) (h1 : (assignEach [tg] X.env).map (·.2) = [assign tg X.env] := by rfl) : QS T io X W (.Assign [tg] e pos) (mAsg a g) :=
  fun G gg => PS.imp (ps_asg (he G gg) (hg G gg) hs hw h1) fun B σ H ⟨F, r, t, tv, h1, h2⟩ => by
    refine ⟨F, r, t, tv, h1, (sat_bind h2).mono (fun d r1 q v F1 H1 s1 s2 h3 => ?_) fun _ _ q => q.toP⟩
    obtain ⟨r', e, q⟩ := sat_to q
    exact ⟨F1, r1, t, tv, d, r', h3, e, fun σ2 F2 H2 _ s3 _ h4 => q σ2 F2 H2 (s1.trans s3) h4⟩
theorem qs_set {i : Nat} {x : Str} {e : Expr} {pos' : Pos} {a : M D} (hN : X.N.Nodup) (hi : X.N[i]? = some x) (hx : Loc X.env.scope x) (hio : i ∉ io.l) (he : QE T io X W p e a) (hs : swapsWith e (some (.Name x pos')) pos.line X.env = pure false := by rfl)
    (hf : X.fn x = true ∨ X.env.scope.names.lookup x = some .local := by first | exact .inl rfl | exact .inr rfl | assumption) : QS T io X W (.Assign [.Name x pos'] e pos) (mAsg a (gPut i)) :=
  fun G g => PS.imp (ps_set hN hi hx (he G g) hs hf) fun B σ H ⟨F, r, t, tv, h1, h2⟩ => by
    refine ⟨F, r, t, tv, h1, (sat_bind h2).mono (fun d r1 q v F1 H1 s1 s2 h3 => ?_) fun _ _ q => q.toP⟩
    obtain ⟨r', e, q⟩ := sat_to q
    unfold gPut at e
    split at e
    · rename_i hl
      cases e
      exact q _ F1 H1 s1 (h3.put hl fun w e => absurd (g.1 i w e) hio)
    · cases e
theorem qs_expr {e : Expr} {a : M D} (he : QE T io X W p e a) (hs : swapsWith e none pos.line X.env = pure false := by rfl) : QS T io X W (.Expr e pos) (mDrop a) :=
  fun G g => PS.imp (ps_expr (he G g) hs) fun B σ H ⟨F, r, t, tv, h1, h2⟩ => 
    ⟨F, r, t, tv, h1, (sat_bind h2).mono (fun d r1 q v F1 H1 s1 s2 h3 => q σ F1 H1 s1 h3.drop) fun _ _ q => q.toP⟩
theorem qs_ret {e : Expr} {a : M D} (he : QE T io X W p e a) : QS T io X W (.Return (some e) pos) (mRet a) :=
  fun G g => PS.imp (ps_ret (he G g)) fun B σ H ⟨F, r, t, tv, h1, h2⟩ => 
    ⟨F, r, t, tv, h1, (sat_bind h2).mono (fun d r1 q v F1 H1 s1 s2 h3 => q σ F1 H1 s1 v h3) fun _ _ q => q.toP⟩
theorem qs_if {c : Expr} {a b : List Stmt} {mc : M Bool} {ma mb : M Fl} (hc : QT T io X W p c mc) (ha : QSs T io X W a ma) (hb : QSs T io X W b mb) : QS T io X W (.If c a b pos) (mIfS mc ma mb) :=
  fun G g => PS.imp (ps_if (hc G g) (ha G g) (hb G g)) fun B σ H ⟨F, r, t, tv, h1, h2⟩ => by
    refine ⟨F, r, t, tv, h1, (sat_bind h2).mono (fun c r1 q F1 H1 s1 s2 h3 => ?_) fun _ _ q => q.toP⟩
    cases c with
    | true =>
      rw [if_pos rfl] at q ⊢
      exact ⟨F1, r1, t, tv, h3, q.mono (fun _ _ q => q.trans s1) fun _ _ q => q.trans s1⟩
    | false =>
      rw [if_neg Bool.false_ne_true] at q ⊢
      exact ⟨F1, r1, t, tv, h3, q.mono (fun _ _ q => q.trans s1) fun _ _ q => q.trans s1⟩
theorem qss_nil : QSs T io X W [] (M.ret .nx) := fun G g => PSs.imp pss_nil fun B σ H ⟨F, r, t, tv, h1, h2⟩ => h2 σ F H (Same.refl _) h1
theorem qss_one {st : Stmt} {a : M Fl} (h : QS T io X W st a) : QSs T io X W [st] a := fun G g => pss_one (h G g)
theorem qss_cons {st : Stmt} {rest : List Stmt} {a b : M Fl} (h : QS T io X W st a) (hr : QSs T io X W rest b) : QSs T io X W (st :: rest) (mSeq a b) :=
  fun G g => PSs.imp (pss_cons (h G g) (hr G g)) fun B σ H ⟨F, r, t, tv, h1, h2⟩ => by
    refine ⟨F, r, t, tv, h1, (sat_bind h2).mono (fun f r1 q σ1 F1 H1 s1 => ?_) fun _ _ q => q⟩
    cases f with
    | nx => exact fun h3 => ⟨F1, r1, t, tv, h3, q.mono (fun _ _ q => q.trans s1) fun _ _ q => q.trans s1⟩
    | rt d => exact q σ1 F1 H1 s1
    | bk => exact q σ1 F1 H1 s1
    | ct => exact q σ1 F1 H1 s1

/-! ### while -/
/-- what a turn's end says -/
def loopK (again : M Fl) : Fl → M Fl
  | .nx => again
  | .ct => again
  | .bk => M.ret .nx
  | .rt d => M.ret (.rt d)
open Classical in
/-! ### for -/
def mForL (g : Gt) (b : M Fl) : List D → M Fl
  | [] => M.ret .nx
  | d :: ds => M.bind (mTo g d) fun _ => M.bind b (loopK (mForL g b ds))
theorem Res.mono {K : PySem.W.Frag} {T : String → Option Addr} {F F' H H' : Hp} {d : D} {v : V} (h : Res K T F H d v H') (s : Same F F') : Res K T F' H d v H' := by
  cases h with
  | sh f => exact .sh (f.mono s)
  | new k1 k2 f n => exact .new k1 k2 (f.mono s) n
  | newF k1 k2 f n => exact .newF k1 k2 (f.mono s) n
  | key e => exact .key e
  | newK e n => exact .newK e n
/-- what walks the items ds: it yields values that are frozen data -/
structure Walks (K : PySem.W.Frag) (T : String → Option Addr) (J : It) (F : Hp) (ds : List D) (Pv : Hp → Prop) : Prop where
  stop : ∀ H, Pv H → J.stop ds.length H
  go : ∀ i H, Pv H → i < ds.length → J.go i H
  yld : ∀ i H x H' d, Pv H → ds[i]? = some d → J.yld i H x H' → Res K T F H d x H'
theorem for_walks {tg : Expr} {gt : TG} {tb : TS} {G : Gm} {g : Gt} {sl : List Nat} {pg : Bool} {mb : M Fl} {body : List Stmt} {J : It} {B : Ends} {F : Hp} {ds : List D} {Pv : Hp → Prop} {r : VS} {t : List D} {tv : List V} {σ : L2.St} {H : Hp}
    (w : Walks X.K T J F ds Pv) (hv : ∀ F' H', Same F F' → Same F' H' → Pv H') (h1 : Rl X.K T G F r t σ tv H) (h2 : (mForL g mb ds r).sat (flS X.K T G B t tv F) (exS X.K T G W t tv F)) :
    ∃ W' : Nat → Nat → L2.St → Hp → Prop, (∃ m, W' 0 m σ H) ∧ ∀ i m σ H, W' i m σ H →
      (J.stop i H ∧ B.nx σ H) ∨ (J.go i H ∧ ∃ N : L2.St → Hp → Prop, (∀ σ' H', N σ' H' → ∃ m', m' < m ∧ W' (i + 1) m' σ' H') ∧ ∀ x H', J.yld i H x H' → tG X.K T G sl pg g x σ H' fun σ2 H2 => tS X.K T G W mb { B with nx := N, ct := N, bk := B.nx } σ2 H2) := by
  refine ⟨fun i m σ H => m = ds.length - i ∧ i ≤ ds.length ∧ ∃ F' r', Same F F' ∧ Rl X.K T G F' r' t σ tv H ∧ (mForL g mb (ds.drop i) r').sat (flS X.K T G B t tv F) (exS X.K T G W t tv F), ⟨ds.length, by simp, Nat.zero_le _, F, r, Same.refl _, h1, by simpa using h2⟩, ?_⟩
  rintro i m σ1 H1 ⟨rfl, hi, F1, r1, s1, h3, q⟩
  have pv := hv F1 H1 s1 h3.sub
  by_cases hlt : i < ds.length
  · refine .inr ⟨w.go i H1 pv hlt, fun σ' H' => ∃ F' r', Same F F' ∧ Rl X.K T G F' r' t σ' tv H' ∧ (mForL g mb (ds.drop (i + 1)) r').sat (flS X.K T G B t tv F) (exS X.K T G W t tv F),
      fun σ' H' h => ⟨ds.length - (i + 1), by omega, rfl, hlt, h⟩, fun x H2 y => ?_⟩
    have ed : ds.drop i = ds[i] :: ds.drop (i + 1) := List.drop_eq_getElem_cons hlt
    rw [ed] at q
    obtain ⟨F5, s5, h5', z5⟩ := h3.res ((w.yld i H1 x H2 ds[i] pv (List.getElem?_eq_getElem hlt) y).mono s1)
    replace s1 := s1.trans s5
    obtain ⟨r', e, q⟩ := sat_to (sat_bind q)
    refine ⟨F5, r1, t, tv, ds[i], r', h5', e, fun σ2 F2 H2 _ s2 _ h4 => ?_⟩
    refine ⟨F2, r', t, tv, h4, (sat_bind q).mono (fun f r3 q σ3 F3 H3 s3 => ?_) fun _ _ q => q.trans (s1.trans s2)⟩
    cases f with
    | nx => exact fun h5 => ⟨F3, r3, (s1.trans s2).trans s3, h5, q⟩
    | ct => exact fun h5 => ⟨F3, r3, (s1.trans s2).trans s3, h5, q⟩
    | bk => exact fun h5 => q σ3 F3 H3 ((s1.trans s2).trans s3) h5
    | rt d => exact fun v h5 => q σ3 F3 H3 ((s1.trans s2).trans s3) v h5
  · have e : i = ds.length := by omega
    subst e
    rw [List.drop_eq_nil_of_le (Nat.le_refl _)] at q
    exact .inl ⟨w.stop H1 pv, q σ1 F1 H1 s1 h3⟩
/-- over range(n) -/
def int? : D → Option Int
  | .leaf (.int i) => some i
  | _ => none
theorem int?_eq {d : D} {i : Int} (h : int? d = some i) : d = .int i := by
  cases d with
  | leaf s => cases s <;> simp_all [int?]
  | node o k ds => simp [int?] at h
def rangeL (lo : Int) (n : Nat) : List D := (List.range n).map fun i => .int (lo + (i : Nat))
theorem walks_range {K : PySem.W.Frag} {F : Hp} (lo : Int) (n : Nat) : Walks K T (Itr lo n) F (rangeL lo n) (fun _ => True) where
  stop := fun H _ => by show n ≤ (rangeL lo n).length; simp [rangeL]
  go := fun i H _ h => by show i < n; simpa [rangeL] using h
  yld := fun i H x H' d _ e y => by
    obtain ⟨rfl, rfl⟩ := y
    unfold rangeL at e
    rw [List.getElem?_map] at e
    cases e1 : (List.range n)[i]? with
    | none => rw [e1] at e; cases e
    | some j =>
      rw [e1] at e
      cases e
      obtain ⟨h1, h2⟩ := List.getElem?_eq_some_iff.mp e1
      rw [List.getElem_range] at h2
      subst h2
      exact .sh (.leaf rfl)
def bnd (i : Int) : Bool := decide (-(2 ^ 62) ≤ i) && decide (i < 2 ^ 62)
theorem lk_int {K : PySem.W.Frag} {F H : Hp} {d : D} {v : V} {i : Int} (h : Lk K T F H d v) (e : int? d = some i) : v = .int i := by
  rw [int?_eq e] at h
  cases h with
  | leaf z => exact z
theorem bnd_of {i : Int} (h : bnd i = true) : -(2 ^ 62) ≤ i ∧ i < 2 ^ 62 := by simpa [bnd] using h
end
end VL

/-! VL6: loops over sequences, raise, try, functions and their calls. -/
namespace VL
open PySem PySem.Spec L2

section
variable {T : String → Option Addr} {io : Io} {X : Cx} {W : WX} {p p1 p2 : Bool} {pos : Pos}

theorem walks_list' {K : PySem.W.Frag} {F : Hp} {a : Addr} {ds : List D} {vs : List V} (h : FzL K T F ds vs) : Walks K T (Itl K a) F ds (fun H => SqL K H a vs) where
  stop := fun H q => ⟨vs, q, by rw [h.length]; exact Nat.le_refl _⟩
  go := fun i H q hi => ⟨vs, vs[i]'(by rw [← h.length]; exact hi), q, List.getElem?_eq_getElem _⟩
  yld := fun i H x H' d q e y => by
    obtain ⟨rfl, y⟩ := y
    obtain ⟨v, e1, e2⟩ := h.get e
    have := y vs q
    rw [e1] at this
    cases this
    exact .sh e2
theorem walks_tup {K : PySem.W.Frag} {F : Hp} {a : Addr} {ds : List D} {vs : List V} (h : FzL K T F ds vs) : Walks K T (Itt K a) F ds (fun H => SqT K H a vs) where
  stop := fun H q => ⟨vs, q, by rw [h.length]; exact Nat.le_refl _⟩
  go := fun i H q hi => ⟨vs, vs[i]'(by rw [← h.length]; exact hi), q, List.getElem?_eq_getElem _⟩
  yld := fun i H x H' d q e y => by
    obtain ⟨rfl, y⟩ := y
    obtain ⟨v, e1, e2⟩ := h.get e
    have := y vs q
    rw [e1] at this
    cases this
    exact .sh e2
/-! ### raise, try -/
def mRaise (c : String) : M Fl := fun r => .ex c r
theorem qs_raise {e : Expr} {c : String} {C : Addr} (hc : X.calm = true) (tk : Takes X W) (hT : T c = some C) (he : PMk X e (fun _ H Q => Q (.ref C) none H)) : QS T io X W (.Raise (some e) none pos) (mRaise c) :=
  fun G g => PS.imp (ps_raise hc tk he) fun B σ H ⟨F, r, t, tv, h1, h2⟩ => h2 C σ F H hT (Same.refl _) h1
/-- the suite's wish: it raises nothing -/
abbrev W0 : WX := fun _ _ _ _ => False
/-- what an except clause over the class c takes -/
def Catches (K : PySem.W.Frag) (T : String → Option Addr) (c : Value) (f : String → Bool) : Prop := ∀ x C, T x = some C → PySem.W.exmOne K (.ref C) c = some (f x)
/-! ### functions -/
/-- what a def does to plain data: the answer, and the data behind the arguments that it may turn -/
inductive RF where
  | ok (d : D) (outs : List D)
  | ex (c : String) (outs : List D)
  | no
abbrev Fn := List D → RF
def outs? (r : VS) : List Nat → Option (List D)
  | [] => some []
  | i :: is => match slot? i r, outs? r is with
    | some d, some ds => some (d :: ds)
    | _, _ => none
/-- n names, the arguments first; io: the parameters whose objects may be turned -/
def fnM (n : Nat) (io : List Nat) (body : M Fl) : Fn := fun args => match body (args.map some ++ List.replicate (n - args.length) none) with
  | .ok (.rt d) r => (match outs? r io with | some o => .ok d o | none => .no)
  | .ok .nx r => (match outs? r io with | some o => .ok .non o | none => .no)
  | .ex c r => (match outs? r io with | some o => .ex c o | none => .no)
  | _ => .no
/-- behind a call: the frozen part may have grown, what is not handed over stands -/
structure Aft (F H : Hp) (P : Ft) (F' H' : Hp) (P' : Ft) : Prop where
  fr : Same F F'
  sub : Same F' H'
  keep : ∀ a o, H a = some o → ¬ P a → H' a = some o
  own : ∀ a, P' a → P a ∨ H a = none
  frz : ∀ a o, F' a = some o → F a = some o ∨ P a ∨ H a = none ∨ KT o
def spV (K : PySem.W.Frag) (T : String → Option Addr) (np : Nat) (io : List Nat) (m : Fn) : Sp := fun vs H Q E => ∃ F ds P, OwL K T F H ds vs P ∧ Same F H ∧ ds.length = np ∧ match m ds with
  | .ok d outs => ∀ v F' H' vo P', OwL K T F' H' (outs ++ [d]) (vo ++ [v]) P' → Aft F H P F' H' P' → (vo.map some = io.map fun i => vs[i]?) → Q v H'
  | .ex c outs => ∀ C F' H' vo P', T c = some C → OwL K T F' H' outs vo P' → Aft F H P F' H' P' → (vo.map some = io.map fun i => vs[i]?) → E (.ref C) none H'
  | .no => False

theorem OwS.start {K : PySem.W.Frag} {F H : Hp} : ∀ {ds : List D} {vs : List V} {P : Ft} (n : Nat), OwL K T F H ds vs P → OwS K T F H (ds.map Option.some ++ List.replicate n Option.none) (vs.map Option.some ++ List.replicate n Option.none) P
  | [], _, P, n, h => by
    cases h with
    | nil e =>
      induction n with
      | zero => exact .nil e
      | succ n ih => simpa [List.replicate_succ] using OwS.none ih
  | d :: ds, _, P, n, h => by
    cases h with
    | cons o h dj un => exact .some o (OwS.start n h) dj un
theorem Rl.takes {K : PySem.W.Frag} {G : Gm} {F H : Hp} {σ : L2.St} : ∀ {io : List Nat} {r : VS} {t : List D} {tv : List V} {o : List D}, io.Nodup → Rl K T G F r t σ tv H → outs? r io = some o →
    ∃ vo r', vo.map some = io.map (fun i => (σ[i]?).join) ∧ Rl K T G F r' (o ++ t) σ (vo ++ tv) H ∧ ∀ j, j ∉ io → r'[j]? = r[j]?
  | [], r, t, tv, o, _, h, e => by cases e; exact ⟨[], r, rfl, h, fun _ _ => rfl⟩
  | i :: is, r, t, tv, o, nd, h, e => by
    simp only [outs?] at e
    cases e1 : slot? i r with
    | none => rw [e1] at e; cases e
    | some d =>
      rw [e1] at e
      cases e2 : outs? r is with
      | none => rw [e2] at e; cases e
      | some ds =>
        rw [e2] at e
        cases e
        obtain ⟨vo, r', h1, h2, h3⟩ := Rl.takes (List.nodup_cons.mp nd).2 h e2
        have e3 : r'[i]? = some (some d) := by rw [h3 i (List.nodup_cons.mp nd).1]; exact slot?_eq e1
        obtain ⟨v, ev, h4⟩ := h2.take e3
        refine ⟨v :: vo, r'.set i none, by simp [h1, ev], h4, fun j hj => ?_⟩
        rw [List.getElem?_set_ne (fun z => hj (by simp [z])), h3 j (fun z => hj (List.mem_cons_of_mem _ z))]
/-! ### calls -/
/-- the temporaries on top are handed over; the caller's state behind the call -/
theorem Rl.split {K : PySem.W.Frag} {G : Gm} {F H : Hp} {r : VS} {t : List D} {σ : L2.St} {tv : List V} {ds : List D} {vs : List V} (hl : ds.length = vs.length) (h : Rl K T G F r (ds ++ t) σ (vs ++ tv) H) :
    ∃ A, OwL K T F H ds vs A ∧ ∀ (F' H' : Hp) (os : List D) (vo : List V) (P' : Ft), OwL K T F' H' os vo P' → Aft F H A F' H' P' → Rl K T G F' r (os ++ t) σ (vo ++ tv) H' := by
  obtain ⟨⟨Ps, Pt, h1, h2, dj, hp⟩, b1, b2, b3, b4, b5, b6⟩ := h
  obtain ⟨A, B, g1, g2, g3, g4⟩ := OwL.cut hl h2
  refine ⟨A, g1, ?_⟩
  rintro F' H' os vo P' q1 ⟨a1, a2, a3, a4, a5⟩
  have st : ∀ {Q : Ft}, (∀ a, Q a → F a = none ∧ ∃ o, H a = some o) → (∀ a o, Q a → H a = some o → ¬ KT o) → (∀ a, Q a → ¬ A a) → (∀ a, Q a → H' a = H a) ∧ ∀ a, Q a → F' a = none := fun {Q} q0 qk q1 => by
    refine ⟨fun a z => ?_, fun a z => ?_⟩
    · obtain ⟨_, o, e⟩ := q0 a z
      rw [e]; exact a3 a o e (q1 a z)
    · obtain ⟨e1, o, e2⟩ := q0 a z
      cases e : F' a with
      | none => rfl
      | some u =>
        rcases a5 a u e with w | w | w | w
        · rw [e1] at w; cases w
        · exact (q1 a z w).elim
        · rw [e2] at w; cases w
        · have e3 := a2 a u e
          rw [a3 a o e2 (q1 a z)] at e3
          cases e3
          exact (qk a o z e2 w).elim
  obtain ⟨s1, s2⟩ := st (Q := Ps) (fun a z => h1.at z) (fun a o z e => h1.noKT z e) fun a z w => dj a z ((g4 a).mpr (.inl w))
  obtain ⟨s3, s4⟩ := st (Q := B) (fun a z => g2.at z) (fun a o z e => g2.noKT z e) fun a z w => g3 a w z
  refine ⟨⟨Ps, fun a => P' a ∨ B a, h1.frame a1 s1 s2, OwL.join q1 (g2.frame a1 s3 s4) (fun a z w => ?_) fun _ => Iff.rfl, fun a z w => ?_, fun a z => ?_⟩, a2, fun a o e n => ?_, fun a o e => ?_, b4.trans a1, b5, b6.gen (fun a o e n => a3 a o e fun z => n (g1.plain z e)) fun a u e => by
    rcases a5 a u e with w | w | w | w
    · exact .inl w
    · obtain ⟨_, o, e2⟩ := g1.at w
      exact .inr (.inr ⟨o, e2, g1.plain w e2⟩)
    · exact .inr (.inl w)
    · cases e2 : H a with
      | none => exact .inr (.inl rfl)
      | some o =>
        by_cases pl : PlainO o
        · exact .inr (.inr ⟨o, rfl, pl⟩)
        · have e3 := a3 a o e2 fun z => pl (g1.plain z e2)
          rw [a2 a u e] at e3
          cases e3
          obtain ⟨vs, w1, _⟩ := w
          subst w1
          exact (pl trivial).elim⟩
  · rcases a4 a z with y | y
    · exact g3 a y w
    · obtain ⟨_, o, e⟩ := g2.at w
      rw [e] at y; cases y
  · rcases w with w | w
    · rcases a4 a w with y | y
      · exact dj a z ((g4 a).mpr (.inl y))
      · obtain ⟨_, o, e⟩ := h1.at z
        rw [e] at y; cases y
    · exact dj a z ((g4 a).mpr (.inr w))
  · rcases z with z | z | z
    · exact hp a (.inl z)
    · rcases a4 a z with y | y
      · exact hp a (.inr ((g4 a).mpr (.inl y)))
      · by_cases q : G.P0 a
        · exact .inl q
        · refine .inr ?_
          cases e : G.H0 a with
          | none => rfl
          | some o => rw [b2 a o e q] at y; cases y
    · exact hp a (.inr ((g4 a).mpr (.inr z)))
  · refine a3 a o (b2 a o e n) fun z => ?_
    rcases hp a (.inr ((g4 a).mpr (.inl z))) with y | y
    · exact n y
    · rw [e] at y; cases y
  · rcases a5 a o e with y | y | y | y
    · exact b3 a o y
    · rcases hp a (.inr ((g4 a).mpr (.inl y))) with z | z
      · exact .inr (.inl z)
      · exact .inr (.inr (.inl z))
    · by_cases q : G.P0 a
      · exact .inr (.inl q)
      · refine .inr (.inr (.inl ?_))
        cases e2 : G.H0 a with
        | none => rfl
        | some o => rw [b2 a o e2 q] at y; cases y
    · exact .inr (.inr (.inr y))
/-- arguments, some of them given up by their slots: bk tells which -/
def tAI (K : PySem.W.Frag) (T : String → Option Addr) (G : Gm) (W : WX) (p : Bool) (bk : List (Option Nat)) (m : M (List D)) : TA := fun σ H Q => ∃ F r t tv, Rl K T G F r t σ tv H ∧
  (m r).sat (fun ds r' => ∀ vs F' H', Same F F' → (p = true → Same H H') → ds.length = vs.length → ds.length = bk.length → (∀ (j i : Nat), bk[j]? = some (some i) → ∃ v, vs[j]? = some v ∧ σ[i]? = some (some v)) → Rl K T G F' r' (ds ++ t) σ (vs ++ tv) H' → Q vs H') (exP K T G W σ t tv F)
def QAI (T : String → Option Addr) (io : Io) (X : Cx) (W : WX) (p : Bool) (bk : List (Option Nat)) (es : List Expr) (m : M (List D)) : Prop := ∀ G, Pins io G → PA X es (tAI X.K T G W p bk m)
theorem qai_nil : QAI T io X W true [] [] mNil := fun G _ => PA.imp pa_nil fun σ H Q ⟨F, r, t, tv, h1, h2⟩ => h2 [] F H (Same.refl _) (fun _ => Same.refl _) rfl rfl (fun j i e => by simp at e) h1
theorem qai_cons {e : Expr} {es : List Expr} {bk : List (Option Nat)} {a : M D} {b : M (List D)} (ha : QE T io X W p1 e a) (hb : QAI T io X W p2 bk es b) (hs : starEach (e :: es) X.env = (false, eval e X.env) :: starEach es X.env := by rfl) : QAI T io X W (p1 && p2) (none :: bk) (e :: es) (mCons a b) :=
  fun G g => PA.imp (pa_cons (ha G g) (hb G g) hs) fun σ H Q ⟨F, r, t, tv, h1, h2⟩ => by
    refine ⟨F, r, t, tv, h1, (sat_bind h2).mono (fun d r1 q v F1 H1 s1 s2 h3 => ?_) fun _ _ q => q⟩
    refine ⟨F1, r1, d :: t, v :: tv, h3, (sat_bind q).mono (fun ds r2 q vs F2 H2 s3 s4 hl hlb hj h4 => ?_) fun c r' q => ?_⟩
    · refine q (v :: vs) F2 H2 (s1.trans s3) (fun z => (s2 (andL z)).trans (s4 (andR z))) (by simp [hl]) (by simp [hlb]) (fun j i e => ?_) (Rl.lift hl h4)
      cases j with
      | zero => simp at e
      | succ j => simpa using hj j i (by simpa using e)
    · exact fun C F2 H2 z s3 h4 => q C F2 H2 z (s1.trans s3) h4.drop
theorem qai_io {i : Nat} {x : Str} {es : List Expr} {bk : List (Option Nat)} {b : M (List D)} (hN : X.N[i]? = some x) (hv : Vis X.env.scope x) (hb : QAI T io X W p bk es b) (hd : (x == ("__debug__" : Str)) = false := by decide) (hcd : (x == ("__classdict__" : Str)) = false := by decide)
    (hs : starEach (.Name x pos :: es) X.env = (false, eval (.Name x pos) X.env) :: starEach es X.env := by rfl) : QAI T io X W p (some i :: bk) (.Name x pos :: es) (mCons (mMove i) b) :=
  fun G g => PA.imp (pa_cons (pe_var hN hv hd hcd) (hb G g) hs) fun σ H Q ⟨F, r, t, tv, h1, h2⟩ => by
    have q := sat_bind h2
    unfold mMove at q
    cases e : slot? i r with
    | none => simp only [e] at q; exact q.elim
    | some d =>
      simp only [e] at q
      obtain ⟨v, ev, h3⟩ := h1.take (slot?_eq e)
      refine ⟨v, ev, F, r.set i none, d :: t, v :: tv, h3, (sat_bind q).mono (fun ds r2 q vs F2 H2 s3 s4 hl hlb hj h4 => ?_) fun c r' q => ?_⟩
      · refine q (v :: vs) F2 H2 s3 s4 (by simp [hl]) (by simp [hlb]) (fun j i' e => ?_) (Rl.lift hl h4)
        cases j with
        | zero =>
          simp at e
          subst e
          exact ⟨v, rfl, ev⟩
        | succ j => simpa using hj j i' (by simpa using e)
      · exact fun C F2 H2 z s3 h4 => q C F2 H2 z s3 h4.drop
def putB (r : VS) : List (Option Nat) → List D → Option VS
  | [], [] => some r
  | none :: bs, _ :: os => putB r bs os
  | some i :: bs, o :: os => if i < r.length then putB (r.set i (some o)) bs os else none
  | _, _ => none
/-- what a call does: io, the callee's parameters that it may turn; bk, which slots gave their data -/
def mCall (fn : Fn) (cio : List Nat) (bk : List (Option Nat)) (args : M (List D)) : M D := M.bind args fun ds r => match fn ds with
  | .ok d os => (match putB r (cio.map fun j => (bk[j]?).join) os with | some r' => .ok d r' | none => .no)
  | .ex c os => (match putB r (cio.map fun j => (bk[j]?).join) os with | some r' => .ex c r' | none => .no)
  | .no => .no
theorem Rl.backs {K : PySem.W.Frag} {G : Gm} {F H : Hp} {σ : L2.St} {t : List D} {tv : List V} : ∀ {bs : List (Option Nat)} {os : List D} {vo : List V} {r r' : VS}, putB r bs os = some r' → os.length = vo.length → (∀ (j i : Nat), bs[j]? = some (some i) → ∃ v, vo[j]? = some v ∧ σ[i]? = some (some v)) →
    Rl K T G F r (os ++ t) σ (vo ++ tv) H → Rl K T G F r' t σ tv H
  | [], [], [], r, r', e, _, _, h => by cases e; exact h
  | [], _ :: _, _, _, _, e, _, _, _ => by cases e
  | none :: bs, [], _, _, _, e, _, _, _ => by cases e
  | some i :: bs, [], _, _, _, e, _, _, _ => by cases e
  | [], [], _ :: _, _, _, _, hl, _, _ => by simp at hl
  | none :: bs, o :: os, [], _, _, _, hl, _, _ => by simp at hl
  | some i :: bs, o :: os, [], _, _, _, hl, _, _ => by simp at hl
  | none :: bs, o :: os, v :: vo, r, r', e, hl, hj, h => Rl.backs (bs := bs) e (by simpa using hl) (fun j i q => by simpa using hj (j + 1) i (by simpa using q)) h.drop
  | some i :: bs, o :: os, v :: vo, r, r', e, hl, hj, h => by
    simp only [putB] at e
    split at e
    · rename_i hi
      obtain ⟨w, e1, e2⟩ := hj 0 i rfl
      have e1 : v = w := by simpa using e1
      subst e1
      have h2 := h.put hi fun w ew => by
        have := h.pin i w ew
        rw [e2] at this
        exact Option.some.inj (Option.some.inj this)
      rw [set_same e2] at h2
      exact Rl.backs e (by simpa using hl) (fun j i q => by simpa using hj (j + 1) i (by simpa using q)) h2
    · cases e
theorem map_some_get {io : List Nat} {vo vs : List V} (e : vo.map some = io.map fun i => vs[i]?) (k : Nat) : vo[k]? = (io[k]?).bind fun i => vs[i]? := by
  have := congrArg (fun l => (l[k]?).join) e
  simp only [List.getElem?_map] at this
  cases e1 : vo[k]? with
  | none =>
    rw [e1] at this
    cases e2 : io[k]? with
    | none => rfl
    | some i => rw [e2] at this; simpa using this
  | some v =>
    rw [e1] at this
    cases e2 : io[k]? with
    | none => rw [e2] at this; simp at this
    | some i => rw [e2] at this; simpa using this
/-- the promise of a callee serves the caller -/
theorem call_imp {K : PySem.W.Frag} {G : Gm} {F H : Hp} {r : VS} {t : List D} {σ : L2.St} {tv : List V} {ds : List D} {vs : List V} {fn : Fn} {cio : List Nat} {bk : List (Option Nat)} {np : Nat} {Q : VK}
    (hl : ds.length = vs.length) (hn : ds.length = np) (hj : ∀ (j i : Nat), bk[j]? = some (some i) → ∃ v, vs[j]? = some v ∧ σ[i]? = some (some v)) (h : Rl K T G F r (ds ++ t) σ (vs ++ tv) H)
    (q : (mCall fn cio bk (M.ret ds) r).sat (fun d r' => ∀ v F' H', Same F F' → Rl K T G F' r' (d :: t) σ (v :: tv) H' → Q v H') (exP K T G W σ t tv F)) : spV K T np cio fn vs H Q (WE W σ) := by
  have hjs : ∀ {os : List D} {vo : List V} (k i : Nat), vo.map some = cio.map (fun i => vs[i]?) → (cio.map fun j => (bk[j]?).join)[k]? = some (some i) → ∃ v, vo[k]? = some v ∧ σ[i]? = some (some v) := by
    intro os vo k i e e2
    rw [List.getElem?_map] at e2
    cases e3 : cio[k]? with
    | none => rw [e3] at e2; cases e2
    | some j =>
      rw [e3] at e2
      simp only [Option.map_some, Option.some.injEq] at e2
      cases e4 : bk[j]? with
      | none => rw [e4] at e2; cases e2
      | some o =>
        rw [e4] at e2
        simp only [Option.join_some] at e2
        subst e2
        obtain ⟨v, q1, q2⟩ := hj j i e4
        refine ⟨v, ?_, q2⟩
        rw [map_some_get e, e3]
        exact q1
  have q := sat_bind q
  obtain ⟨A, g1, after⟩ := Rl.split hl h
  refine ⟨F, ds, A, g1, h.sub, hn, ?_⟩
  have q : (match fn ds with
    | .ok d os => (match putB r (cio.map fun j => (bk[j]?).join) os with | some r' => R.ok d r' | none => .no)
    | .ex c os => (match putB r (cio.map fun j => (bk[j]?).join) os with | some r' => .ex c r' | none => .no)
    | .no => .no).sat (fun d r' => ∀ v F' H', Same F F' → Rl K T G F' r' (d :: t) σ (v :: tv) H' → Q v H') (exP K T G W σ t tv F) := q
  cases e : fn ds with
  | no => rw [e] at q; exact q
  | ok d os =>
    rw [e] at q
    dsimp only at q
    cases e2 : putB r (cio.map fun j => (bk[j]?).join) os with
    | none => rw [e2] at q; exact q.elim
    | some r' =>
      rw [e2] at q
      intro v F' H' vo P' w1 w2 w3
      have hlo : os.length = vo.length := by
        have := w1.length
        simpa using this
      have h5 := after F' H' _ _ P' w1 w2
      rw [List.append_assoc, List.append_assoc] at h5
      exact q v F' H' w2.fr (Rl.backs e2 hlo (fun k i e => hjs (os := os) k i w3 e) h5)
  | ex c os =>
    rw [e] at q
    dsimp only at q
    cases e2 : putB r (cio.map fun j => (bk[j]?).join) os with
    | none => rw [e2] at q; exact q.elim
    | some r' =>
      rw [e2] at q
      intro C F' H' vo P' hT w1 w2 w3
      have h5 := after F' H' _ _ P' w1 w2
      exact q C F' H' hT w2.fr (Rl.backs e2 w1.length (fun k i e => hjs (os := os) k i w3 e) h5)
/-- f(..) -/
theorem qe_call {e : Expr} {es : List Expr} {x : Str} {pp : Pos} {k : Nat} {f : Addr} {fd : FuncData} {ps : List Str} {np : Nat} {fn : Fn} {cio : List Nat} {bk : List (Option Nat)} {a : M (List D)}
    (F : FnOk X.prog X.w X.K X.mg X.base (L2.CX X.prog X.w) k f fd ps (spV X.K T np cio fn)) (hr : Room k X.A) (hg : Gl X x) (hm : X.mg x = some (.ref f)) (hk : PySem.W.keepIn X.K (.ref f) = true) (hb : Binds X.K fd ps []) (tk : Takes X W) (hnp : bk.length = np)
    (ha : QAI T io X W p bk (e :: es) a) (hdb : (x == ("__debug__" : Str)) = false := by decide) (he : starEach (e :: es) X.env = (false, eval e X.env) :: starEach es X.env := by rfl) (hpl : (backTo pos (starEach es X.env)).any (·.1) = false := by rfl) :
    QE T io X W false (.Call (.Name x pp) (e :: es) [] pos) (mCall fn cio bk a) := fun G g => PE.imp (pe_callS F hr hg hm hk hb (fun σ => passAt tk σ) (ha G g) hdb he hpl) fun σ H Q ⟨F0, r, t, tv, h1, h2⟩ => by
  refine ⟨F0, r, t, tv, h1, (sat_bind h2).mono (fun ds r1 q vs F1 H1 s1 _ hl hlb hj h3 => ?_) fun _ _ q => q⟩
  refine call_imp hl (hlb.trans hnp) hj h3 (R.sat.mono (x := mCall fn cio bk (M.ret ds) r1) q (fun d r' q v F' H' s2 h4 => q v F' H' (s1.trans s2) (fun z => nomatch z) h4) fun _ _ q => q.trans s1)
end
end VL

/-! VL7: operators and built-ins on data. -/
namespace VL
open PySem PySem.Spec L2

mutual
/-- data as the library compares it -/
def D.py : D → Option PyData
  | .leaf .non => some .none
  | .leaf (.bl b) => some (.bool b)
  | .leaf (.int i) => some (.int i)
  | .leaf (.str x) => some (.str x)
  | .node _ .lst ds => (D.pyL ds).map .list
  | .node _ .tup ds => (D.pyL ds).map .tuple
  | .node _ _ _ => none
def D.pyL : List D → Option (List PyData)
  | [] => some []
  | d :: ds => match d.py, D.pyL ds with
    | some p, some ps => some (p :: ps)
    | _, _ => none
end
section
variable {K : PySem.W.Frag} {T : String → Option Addr} {F H : Hp}
mutual
theorem py_dp : ∀ {d : D} {v : V} {q : PyData}, Lk K T F H d v → Same F H → d.py = some q → Dp K H v q
  | .leaf .non, v, q, h, _, e => by cases h with | leaf z => cases e; cases z; exact .non
  | .leaf (.bl b), v, q, h, _, e => by cases h with | leaf z => cases e; cases z; exact .bl b
  | .leaf (.int i), v, q, h, _, e => by cases h with | leaf z => cases e; cases z; exact .int i
  | .leaf (.str x), v, q, h, _, e => by cases h with | leaf z => cases e; cases z; exact .str x
  | .node o .lst ds, v, q, h, s, e => by
    obtain ⟨a, vs, rfl, hn, hl⟩ := h.node s
    simp only [D.py] at e
    cases e1 : D.pyL ds with
    | none => rw [e1] at e; cases e
    | some qs =>
      rw [e1] at e; cases e
      exact .lst hn.2 (pyL_dp hl s e1)
  | .node o .tup ds, v, q, h, s, e => by
    obtain ⟨a, vs, rfl, hn, hl⟩ := h.node s
    simp only [D.py] at e
    cases e1 : D.pyL ds with
    | none => rw [e1] at e; cases e
    | some qs =>
      rw [e1] at e; cases e
      exact .tup hn.sqT (pyL_dp hl s e1)
  | .node o (.dic _) ds, v, q, h, s, e => by simp [D.py] at e
  | .node o (.dit _) ds, v, q, h, s, e => by simp [D.py] at e
  | .node o (.ins _ _) ds, v, q, h, s, e => by simp [D.py] at e
theorem pyL_dp : ∀ {ds : List D} {vs : List V} {qs : List PyData}, LkL K T F H ds vs → Same F H → D.pyL ds = some qs → DpAll K H vs qs
  | [], _, _, h, _, e => by cases h; cases e; exact .nil
  | d :: ds, _, _, h, s, e => by
    cases h with
    | cons h1 h2 =>
      simp only [D.pyL] at e
      cases e1 : d.py with
      | none => rw [e1] at e; cases e
      | some p =>
        rw [e1] at e
        cases e2 : D.pyL ds with
        | none => rw [e2] at e; cases e
        | some ps =>
          rw [e2] at e; cases e
          exact .cons (py_dp h1 s e1) (pyL_dp h2 s e2)
end
theorem lk_leaf {s : Sc} {v : V} (h : Lk K T F H (.leaf s) v) : ScV s v := by cases h with | leaf z => exact z
theorem FzL.append : ∀ {ds es : List D} {vs ws : List V}, FzL K T F ds vs → FzL K T F es ws → FzL K T F (ds ++ es) (vs ++ ws)
  | [], _, _, _, h, h2 => by cases h; exact h2
  | d :: ds, _, _, _, h, h2 => by cases h with | cons a b => exact .cons a (FzL.append b h2)
theorem FzL.drop : ∀ {ds : List D} {vs : List V} (n : Nat), FzL K T F ds vs → FzL K T F (ds.drop n) (vs.drop n)
  | _, _, 0, h => h
  | [], _, n + 1, h => by cases h; exact .nil
  | d :: ds, _, n + 1, h => by cases h with | cons a b => exact FzL.drop n b
theorem FzL.take : ∀ {ds : List D} {vs : List V} (n : Nat), FzL K T F ds vs → FzL K T F (ds.take n) (vs.take n)
  | _, _, 0, h => .nil
  | [], _, n + 1, h => by cases h; exact .nil
  | d :: ds, _, n + 1, h => by cases h with | cons a b => exact .cons a (FzL.take n b)

/-! ### arithmetic -/
def fInt2 (c : Int → Int → Bool) (g : Int → Int → Int) : D → D → Option D
  | .leaf (.int i), .leaf (.int j) => if c i j = true then some (.int (g i j)) else none
  | _, _ => none
theorem op_int2 {c : Int → Int → Bool} {g : Int → Int → Int} {C : Int → Int → Prop} (h : ∀ i j, c i j = true → C i j) : Op2 K T (fInt2 c g) (rI C fun i j => .int (g i j)) := by
  intro F H d e x y d' Q hf s l1 l2 q
  unfold fInt2 at hf
  split at hf
  · rename_i i j
    split at hf
    · rename_i hc
      cases hf
      exact ⟨i, j, lk_leaf l1, lk_leaf l2, h i j hc, q _ _ (.sh (.leaf rfl))⟩
    · cases hf
  · cases hf
theorem op_int2' {g : Int → Int → Int} : Op2 K T (fInt2 (fun _ _ => true) g) (rI0 fun i j => .int (g i j)) := by
  intro F H d e x y d' Q hf s l1 l2 q
  unfold fInt2 at hf
  split at hf
  · rename_i i j
    cases hf
    exact ⟨i, j, lk_leaf l1, lk_leaf l2, q _ _ (.sh (.leaf rfl))⟩
  · cases hf
end
/-! ### list + list, whatever holds it -/
def rCatR (K : PySem.W.Frag) : R2 := fun x y H Q => ∃ l b xs zs, x = .ref l ∧ y = .ref b ∧ SqL K H l xs ∧ SqL K H b zs ∧ xs.length + zs.length ≤ sizeLine ∧ ∀ p, H p = none → Q (.ref p) (upd H p (.lst (xs ++ zs)))
theorem op_catR {X : Cx} : OpR X (binaryOp .Add) (rCatR X.K) := by
  intro pins s σ H x y v u Q I rx ry h
  obtain ⟨l, b, xs, zs, rfl, rfl, hH, hB, hz, q⟩ := h
  cases rx
  cases ry
  obtain ⟨its, r, ⟨⟨c1, d1, t1, sl1⟩, n, e, hc1, hd1, ht1⟩, z⟩ := I.list hH
  obtain ⟨its2, r2, ⟨⟨c2, d2, t2, sl2⟩, n2, e2, hc2, hd2, ht2⟩, z2⟩ := I.list hB
  simp only at hc1 hd1 ht1 hc2 hd2 ht2
  subst hc1 hd1 ht1 hc2 hd2 ht2
  have hl := r.length
  have hl2 := r2.length
  have ea : its.toArray ++ its2.toArray = (its ++ its2).toArray := by simp
  open PyProof.Rows PySem in
  refine concat_meets ⟨_, e, rfl⟩ ⟨_, e2, rfl⟩ noFill_list_add seq_list_add PySem.F.slot_list_add PySem.F.entry_list_add (PySem.F.args_list_add_2 _ _) (list_addW l b its.toArray its2.toArray n n2 _ _ sl1 sl2 (by simp; omega)) ⟨e, e2, ?_⟩
  rw [ea]
  exact ⟨.ref _, _, I.lnew (t' := s.toks) (r.append r2) (by rw [List.length_append]; omega), rfl, q _ I.fresh⟩
/-- x + y: ints, texts, lists, tuples -/
def fAdd : D → D → Option D
  | .leaf (.int i), .leaf (.int j) => some (.int (i + j))
  | .leaf (.str x), .leaf (.str y) => if x.length + y.length ≤ sizeLine then some (.str (x ++ y)) else none
  | .node _ .lst xs, .node _ .lst ys => if xs.length + ys.length ≤ sizeLine ∧ xs.all D.shr = true ∧ ys.all D.shr = true then some (.lst true (xs ++ ys)) else none
  | .node false .tup xs, .node _ .tup ys => if xs ≠ [] ∧ xs.length + ys.length ≤ sizeLine ∧ xs.all D.shr = true ∧ ys.all D.shr = true then some (.tup false (xs ++ ys)) else none
  | _, _ => none
def rAddU (K : PySem.W.Frag) : R2 := fun x y H Q => (∃ i j, x = .int i ∧ y = .int j ∧ Q (.int (i + j)) H) ∨ (∃ i j, x = .str i ∧ y = .str j ∧ i.length + j.length ≤ sizeLine ∧ Q (.str (i ++ j)) H) ∨ rCatR K x y H Q ∨ rCatT K x y H Q
theorem op_addU {X : Cx} : OpR X (binaryOp .Add) (rAddU X.K) := op_add.or (op_add_str.or (op_catR.or op_catT))
theorem add_ok {K : PySem.W.Frag} {T : String → Option Addr} : Op2 K T fAdd (rAddU K) := by
  intro F H d e x y d' Q hf s l1 l2 q
  unfold fAdd at hf
  split at hf
  · cases hf
    exact .inl ⟨_, _, lk_leaf l1, lk_leaf l2, q _ _ (.sh (.leaf rfl))⟩
  · split at hf
    · rename_i hz
      cases hf
      exact .inr (.inl ⟨_, _, lk_leaf l1, lk_leaf l2, hz, q _ _ (.sh (.leaf rfl))⟩)
    · cases hf
  · split at hf
    · rename_i hz
      cases hf
      obtain ⟨a, vs, rfl, hn, hl⟩ := l1.node s
      obtain ⟨b, ws, rfl, hn2, hl2⟩ := l2.node s
      refine .inr (.inr (.inl ⟨a, b, vs, ws, rfl, rfl, hn.2, hn2.2, by rw [← hl.length, ← hl2.length]; exact hz.1, fun p hp => ?_⟩))
      exact q _ _ (.new (k := .lst) (fun _ _ z => nomatch z) trivial ((hl.shr hz.2.1).append (hl2.shr hz.2.2)) hp)
    · cases hf
  · split at hf
    · rename_i hz
      cases hf
      have lsh := l1
      obtain ⟨a, vs, rfl, hn, hl⟩ := l1.node s
      obtain ⟨b, ws, rfl, hn2, hl2⟩ := l2.node s
      have hne : vs ≠ [] := fun z => hz.1 (by have := hl.length; rw [z] at this; exact List.eq_nil_of_length_eq_zero this)
      refine .inr (.inr (.inr ⟨a, b, vs, ws, rfl, rfl, hn.sqT, hn2.sqT, hne, by rw [← hl.length, ← hl2.length]; exact hz.2.1, fun e => ?_, fun _ p hp => ?_⟩))
      · have ey : _ = [] := List.eq_nil_of_length_eq_zero (by have := hl2.length; rw [e] at this; exact this)
        rw [ey, List.append_nil] at q
        exact q _ _ (.sh (lsh.shr rfl))
      · exact q _ _ (.newF (k := .tup) (fun _ _ z => nomatch z) trivial ((hl.shr hz.2.2.1).append (hl2.shr hz.2.2.2)) hp)
    · cases hf
  · cases hf
def fSub : D → D → Option D := fInt2 (fun _ _ => true) fun i j => i - j
def fMulI : D → D → Option D := fInt2 (fun i j => decide ((-(2 ^ 64) < i ∧ i < 2 ^ 64) ∨ (-(2 ^ 64) < j ∧ j < 2 ^ 64))) fun i j => i * j
def fDiv : D → D → Option D := fInt2 (fun _ j => decide (0 < j ∧ j < 1073741824)) fun i j => i / j
def fMod : D → D → Option D := fInt2 (fun _ j => decide (0 < j)) fun i j => i % j
def fPow : D → D → Option D := fInt2 (fun i j => decide (0 ≤ j ∧ j ≤ 1000000 ∧ i.natAbs < 2 ^ 64)) fun i j => i ^ j.toNat
theorem sub_ok {K : PySem.W.Frag} {T : String → Option Addr} : Op2 K T fSub (rI0 fun i j => .int (i - j)) := op_int2'
theorem mul_ok {K : PySem.W.Frag} {T : String → Option Addr} : Op2 K T fMulI (rI CMul fun i j => .int (i * j)) := op_int2 fun i j h => by have h' := of_decide_eq_true h; exact h'
theorem div_ok {K : PySem.W.Frag} {T : String → Option Addr} : Op2 K T fDiv (rI CDiv fun i j => .int (i / j)) := op_int2 fun i j h => by have h' := of_decide_eq_true h; exact h'
theorem mod_ok {K : PySem.W.Frag} {T : String → Option Addr} : Op2 K T fMod (rI (fun _ j => 0 < j) fun i j => .int (i % j)) := op_int2 fun i j h => by simpa using h
theorem pow_ok {K : PySem.W.Frag} {T : String → Option Addr} : Op2 K T fPow (rI CPow fun i j => .int (i ^ j.toNat)) := op_int2 fun i j h => by simpa [CPow] using h
def fNeg : D → Option D
  | .leaf (.int i) => some (.int (-i))
  | _ => none
theorem neg_ok {K : PySem.W.Frag} {T : String → Option Addr} : Un1 K T fNeg (rU fun i => .int (-i)) := by
  intro F H d x d' Q hf s l q
  unfold fNeg at hf
  split at hf
  · cases hf; exact ⟨_, lk_leaf l, q _ _ (.sh (.leaf rfl))⟩
  · cases hf

/-! ### comparisons -/
def fLt : D → D → Option D
  | .leaf (.int i), .leaf (.int j) => some (.bl (decide (i < j)))
  | .leaf (.str x), .leaf (.str y) => some (.bl (decide (x.cps.toList < y.cps.toList)))
  | _, _ => none
def rLtU : R2 := fun x y H Q => (∃ i j, x = .int i ∧ y = .int j ∧ Q (.bl (decide (i < j))) H) ∨ (∃ i j, x = .str i ∧ y = .str j ∧ Q (.bl (decide (i.cps.toList < j.cps.toList))) H)
theorem op_ltU {X : Cx} : OpR X (compareOp .Lt) rLtU := op_lt.or op_lt_str
theorem lt_ok {K : PySem.W.Frag} {T : String → Option Addr} : Op2 K T fLt rLtU := by
  intro F H d e x y d' Q hf s l1 l2 q
  unfold fLt at hf
  split at hf
  · cases hf; exact .inl ⟨_, _, lk_leaf l1, lk_leaf l2, q _ _ (.sh (.leaf rfl))⟩
  · cases hf; exact .inr ⟨_, _, lk_leaf l1, lk_leaf l2, q _ _ (.sh (.leaf rfl))⟩
  · cases hf
def fLe : D → D → Option D
  | .leaf (.int i), .leaf (.int j) => some (.bl (decide (i ≤ j)))
  | .leaf (.str x), .leaf (.str y) => some (.bl (!decide (y.cps.toList < x.cps.toList)))
  | _, _ => none
def fGt : D → D → Option D
  | .leaf (.int i), .leaf (.int j) => some (.bl (decide (j < i)))
  | .leaf (.str x), .leaf (.str y) => some (.bl (decide (y.cps.toList < x.cps.toList)))
  | _, _ => none
def fGe : D → D → Option D
  | .leaf (.int i), .leaf (.int j) => some (.bl (decide (j ≤ i)))
  | .leaf (.str x), .leaf (.str y) => some (.bl (!decide (x.cps.toList < y.cps.toList)))
  | _, _ => none
def rGtU : R2 := fun x y H Q => (∃ i j, x = .int i ∧ y = .int j ∧ Q (.bl (decide (j < i))) H) ∨ (∃ i j, x = .str i ∧ y = .str j ∧ Q (.bl (decide (j.cps.toList < i.cps.toList))) H)
def rGeU : R2 := fun x y H Q => (∃ i j, x = .int i ∧ y = .int j ∧ Q (.bl (decide (j ≤ i))) H) ∨ (∃ i j, x = .str i ∧ y = .str j ∧ Q (.bl (!decide (i.cps.toList < j.cps.toList))) H)
theorem op_gtU {X : Cx} : OpR X (compareOp .Gt) rGtU := op_gt.or op_gt_str
theorem op_geU {X : Cx} : OpR X (compareOp .GtE) rGeU := op_ge.or op_ge_str
theorem gt_ok {K : PySem.W.Frag} {T : String → Option Addr} : Op2 K T fGt rGtU := by
  intro F H d e x y d' Q hf s l1 l2 q
  unfold fGt at hf
  split at hf
  · cases hf; exact .inl ⟨_, _, lk_leaf l1, lk_leaf l2, q _ _ (.sh (.leaf rfl))⟩
  · cases hf; exact .inr ⟨_, _, lk_leaf l1, lk_leaf l2, q _ _ (.sh (.leaf rfl))⟩
  · cases hf
theorem ge_ok {K : PySem.W.Frag} {T : String → Option Addr} : Op2 K T fGe rGeU := by
  intro F H d e x y d' Q hf s l1 l2 q
  unfold fGe at hf
  split at hf
  · cases hf; exact .inl ⟨_, _, lk_leaf l1, lk_leaf l2, q _ _ (.sh (.leaf rfl))⟩
  · cases hf; exact .inr ⟨_, _, lk_leaf l1, lk_leaf l2, q _ _ (.sh (.leaf rfl))⟩
  · cases hf
/-- == of data -/
def eqPy (d e : D) : Option Bool := match d.py, e.py with
  | some p, some q => if SeqAt.shaped p = true ∧ SeqAt.shaped q = true then some (PyData.eqv p q) else none
  | _, _ => none
def fEq (d e : D) : Option D := (eqPy d e).map fun b => .bl b
def fNe (d e : D) : Option D := (eqPy d e).map fun b => .bl (!b)
theorem eqPy_some {d e : D} {b : Bool} (h : eqPy d e = some b) : ∃ p q, d.py = some p ∧ e.py = some q ∧ SeqAt.shaped p = true ∧ SeqAt.shaped q = true ∧ PyData.eqv p q = b := by
  unfold eqPy at h
  split at h
  · rename_i p q e1 e2
    split at h
    · rename_i hs
      cases h
      exact ⟨p, q, e1, e2, hs.1, hs.2, rfl⟩
    · cases h
  · cases h
theorem eq_ok {K : PySem.W.Frag} {T : String → Option Addr} : Op2 K T fEq (rEqD K) := by
  intro F H d e x y d' Q hf s l1 l2 q
  unfold fEq at hf
  cases h : eqPy d e with
  | none => rw [h] at hf; cases hf
  | some b =>
    rw [h] at hf; cases hf
    obtain ⟨p, p', e1, e2, s1, s2, rfl⟩ := eqPy_some h
    exact ⟨p, p', py_dp l1 s e1, py_dp l2 s e2, s1, s2, q _ _ (.sh (.leaf rfl))⟩
theorem ne_ok {K : PySem.W.Frag} {T : String → Option Addr} : Op2 K T fNe (rNeD K) := by
  intro F H d e x y d' Q hf s l1 l2 q
  unfold fNe at hf
  cases h : eqPy d e with
  | none => rw [h] at hf; cases hf
  | some b =>
    rw [h] at hf; cases hf
    obtain ⟨p, p', e1, e2, s1, s2, rfl⟩ := eqPy_some h
    exact ⟨p, p', py_dp l1 s e1, py_dp l2 s e2, s1, s2, q _ _ (.sh (.leaf rfl))⟩
def isNon : D → Bool
  | .leaf .non => true
  | _ => false
theorem isNon_lk {K : PySem.W.Frag} {T : String → Option Addr} {F H : Hp} {d : D} {x : V} (s : Same F H) (l : Lk K T F H d x) : decide (x = .non) = isNon d := by
  cases d with
  | leaf sc =>
    have z := lk_leaf l
    cases sc with
    | non => cases z; rfl
    | bl b => cases z; rfl
    | int b => cases z; rfl
    | str b => cases z; rfl
  | node o k ds =>
    obtain ⟨a, vs, rfl, _⟩ := l.node s
    rfl
def fIs (d e : D) : Option D := match e with
  | .leaf .non => some (.bl (isNon d))
  | _ => none
def fIsNot (d e : D) : Option D := match e with
  | .leaf .non => some (.bl (!isNon d))
  | _ => none
theorem is_ok {K : PySem.W.Frag} {T : String → Option Addr} : Op2 K T fIs (fun x y H Q => y = .non ∧ Q (.bl (decide (x = .non))) H) := by
  intro F H d e x y d' Q hf s l1 l2 q
  unfold fIs at hf
  split at hf
  · cases hf
    refine ⟨lk_leaf l2, ?_⟩
    rw [isNon_lk s l1]
    exact q _ _ (.sh (.leaf rfl))
  · cases hf
theorem isnot_ok {K : PySem.W.Frag} {T : String → Option Addr} : Op2 K T fIsNot (fun x y H Q => y = .non ∧ Q (.bl (!decide (x = .non))) H) := by
  intro F H d e x y d' Q hf s l1 l2 q
  unfold fIsNot at hf
  split at hf
  · cases hf
    refine ⟨lk_leaf l2, ?_⟩
    rw [isNon_lk s l1]
    exact q _ _ (.sh (.leaf rfl))
  · cases hf

/-! ### built-in functions -/
section
variable {T : String → Option Addr} {io : Io} {X : Cx} {W : WX} {p p1 p2 : Bool} {pos : Pos}
theorem qe_callB {e : Expr} {es : List Expr} {x : Str} {pp : Pos} {id : String} {r : List V → Hp → VK → Prop} {f : List D → Option D} {a : M (List D)} (hc : CallR X (.builtin id) r) (hf : OpN X.K T f r) (hg : Gl X x) (hm : X.mg x = none) (hv : bootBuiltins x = some (.builtin id)) (ha : QAB T io X W p (e :: es) a) (hn : x ≠ "__name__" := by decide) (hdb : (x == ("__debug__" : Str)) = false := by decide)
    (he : starEach (e :: es) X.env = (false, eval e X.env) :: starEach es X.env := by rfl) (hpl : (backTo pos (starEach es X.env)).any (·.1) = false := by rfl) : QE T io X W p (.Call (.Name x pp) (e :: es) [] pos) (mOpN f a) :=
  fun G g => PE.imp (pe_callB hc hg hm hv (ha G g) hn hdb he hpl) fun _ _ _ h => impN hf h
theorem qe_callTy {e : Expr} {es : List Expr} {x : Str} {pp : Pos} {Ty : String} {r : List V → Hp → VK → Prop} {f : List D → Option D} {a : M (List D)} (hc : CallR X (.type Ty) r) (hf : OpN X.K T f r) (hg : Gl X x) (hm : X.mg x = none) (hv : bootBuiltins x = some (.type Ty)) (ha : QAB T io X W p (e :: es) a) (hn : x ≠ "__name__" := by decide) (hdb : (x == ("__debug__" : Str)) = false := by decide)
    (he : starEach (e :: es) X.env = (false, eval e X.env) :: starEach es X.env := by rfl) (hpl : (backTo pos (starEach es X.env)).any (·.1) = false := by rfl) : QE T io X W p (.Call (.Name x pp) (e :: es) [] pos) (mOpN f a) :=
  fun G g => PE.imp (pe_callTy hc hg hm hv (ha G g) hn hdb he hpl) fun _ _ _ h => impN hf h
def fLen : List D → Option D
  | [.leaf (.str x)] => if x.length ≤ sizeLine then some (.int x.length) else none
  | [.node _ .lst ds] => some (.int ds.length)
  | [.node _ .tup ds] => some (.int ds.length)
  | _ => none
theorem lkl1 {K : PySem.W.Frag} {F H : Hp} {d : D} {xs : List V} (h : LkL K T F H [d] xs) : ∃ x, xs = [x] ∧ Lk K T F H d x := by
  cases h with | cons h1 h2 => cases h2; exact ⟨_, rfl, h1⟩
theorem lkl2 {K : PySem.W.Frag} {F H : Hp} {d e : D} {xs : List V} (h : LkL K T F H [d, e] xs) : ∃ x y, xs = [x, y] ∧ Lk K T F H d x ∧ Lk K T F H e y := by
  cases h with | cons h1 h2 => obtain ⟨y, rfl, h3⟩ := lkl1 h2; exact ⟨_, _, rfl, h1, h3⟩
theorem len_ok {K : PySem.W.Frag} : OpN K T fLen (fun xs H Q => ∃ x n, xs = [x] ∧ LenV K x H n ∧ Q (.int n) H) := by
  intro F H ds xs d' Q hf s l q
  unfold fLen at hf
  split at hf
  · split at hf
    · rename_i hz
      cases hf
      obtain ⟨x, rfl, l1⟩ := lkl1 l
      cases lk_leaf l1
      exact ⟨_, _, rfl, ⟨hz, rfl⟩, q _ _ (.sh (.leaf rfl))⟩
    · cases hf
  · cases hf
    obtain ⟨x, rfl, l1⟩ := lkl1 l
    obtain ⟨a, vs, rfl, hn, hl⟩ := l1.node s
    refine ⟨_, vs.length, rfl, .inl ⟨vs, hn.2, rfl⟩, ?_⟩
    rw [← hl.length]
    exact q _ _ (.sh (.leaf rfl))
  · cases hf
    obtain ⟨x, rfl, l1⟩ := lkl1 l
    obtain ⟨a, vs, rfl, hn, hl⟩ := l1.node s
    refine ⟨_, vs.length, rfl, .inr ⟨vs, hn.sqT, rfl⟩, ?_⟩
    rw [← hl.length]
    exact q _ _ (.sh (.leaf rfl))
  · cases hf
def fAbs : List D → Option D
  | [.leaf (.int i)] => some (.int (if i < 0 then -i else i))
  | _ => none
theorem abs_ok {K : PySem.W.Frag} : OpN K T fAbs (fun xs H Q => ∃ i, xs = [.int i] ∧ Q (.int (if i < 0 then -i else i)) H) := by
  intro F H ds xs d' Q hf s l q
  unfold fAbs at hf
  split at hf
  · cases hf
    obtain ⟨x, rfl, l1⟩ := lkl1 l
    cases lk_leaf l1
    exact ⟨_, rfl, q _ _ (.sh (.leaf rfl))⟩
  · cases hf
def fIntC : List D → Option D
  | [.leaf (.int i)] => some (.int i)
  | [.leaf (.bl b)] => some (.int (if b then 1 else 0))
  | _ => none
theorem intc_ok {K : PySem.W.Frag} : OpN K T fIntC (fun xs H Q => (∃ i, xs = [.int i] ∧ Q (.int i) H) ∨ ∃ k, xs = [.bl k] ∧ Q (.int (if k then 1 else 0)) H) := by
  intro F H ds xs d' Q hf s l q
  unfold fIntC at hf
  split at hf
  · cases hf
    obtain ⟨x, rfl, l1⟩ := lkl1 l
    cases lk_leaf l1
    exact .inl ⟨_, rfl, q _ _ (.sh (.leaf rfl))⟩
  · cases hf
    obtain ⟨x, rfl, l1⟩ := lkl1 l
    cases lk_leaf l1
    exact .inr ⟨_, rfl, q _ _ (.sh (.leaf rfl))⟩
  · cases hf
def fMax2 : List D → Option D
  | [.leaf (.int i), .leaf (.int j)] => some (.int (if j > i then j else i))
  | _ => none
def fMin2 : List D → Option D
  | [.leaf (.int i), .leaf (.int j)] => some (.int (if j < i then j else i))
  | _ => none
theorem min2_ok {K : PySem.W.Frag} : OpN K T fMin2 (fun xs H Q => ∃ i j, xs = [.int i, .int j] ∧ Q (.int (if j < i then j else i)) H) := by
  intro F H ds xs d' Q hf s l q
  unfold fMin2 at hf
  split at hf
  · cases hf
    obtain ⟨x, y, rfl, l1, l2⟩ := lkl2 l
    cases lk_leaf l1; cases lk_leaf l2
    exact ⟨_, _, rfl, q _ _ (.sh (.leaf rfl))⟩
  · cases hf
end
end VL

/-! VL8: list comprehensions; items and slices. -/
namespace VL
open PySem PySem.Spec L2

section
variable {K : PySem.W.Frag} {T : String → Option Addr} {G : Gm} {F H : Hp} {r : VS} {t : List D} {σ : L2.St} {tv : List V}
/-- the slots of a comprehension's own names, empty -/
def hide (own : List Nat) (r : VS) : VS := own.foldl (fun r i => r.set i none) r
/-- behind a comprehension: what may be shared comes back -/
def unhide (own : List Nat) (r0 r : VS) : VS := own.foldl (fun r i => match slot? i r0 with
  | some d => if d.shr = true ∧ i < r.length then r.set i (some d) else r
  | none => r) r
theorem ows_give {r : VS} {σ : L2.St} {P : Ft} (h : OwS K T F H r σ P) (n : Nat) : ∃ P', OwS K T F H (r.set n none) σ P' ∧ ∀ a, P' a → P a := by
  by_cases hn : n < r.length
  · cases e : r[n] with
    | none =>
      have e' : r[n]? = some none := by rw [List.getElem?_eq_getElem hn, e]
      rw [set_same e']
      exact ⟨P, h, fun _ z => z⟩
    | some d =>
      obtain ⟨v, P1, P2, _, _, _, un, g, _⟩ := h.focus (n := n) (d := d) (by rw [List.getElem?_eq_getElem hn, e])
      exact ⟨P2, g, fun a z => (un a).mpr (.inr z)⟩
  · rw [List.set_eq_of_length_le (by omega)]
    exact ⟨P, h, fun _ z => z⟩
/-- an empty slot's value does not matter -/
theorem ows_reval {r : VS} {σ σ' : L2.St} {P : Ft} (h : OwS K T F H r σ P) (hl : σ'.length = σ.length) (hs : ∀ j : Nat, (∃ d, r[j]? = some (some d)) → σ'[j]? = σ[j]?) : OwS K T F H r σ' P := by
  induction h generalizing σ' with
  | nil e => cases σ' with
    | nil => exact .nil e
    | cons _ _ => simp at hl
  | @none x r σ P hr ih => cases σ' with
    | nil => simp at hl
    | cons y σ' => exact .none (ih (by simpa using hl) fun j ⟨d, e⟩ => by simpa using hs (j + 1) ⟨d, by simpa using e⟩)
  | @some d v r σ P P1 P2 o hr dj un ih => cases σ' with
    | nil => simp at hl
    | cons y σ' =>
      have := hs 0 ⟨d, rfl⟩
      simp at this
      subst this
      exact .some o (ih (by simpa using hl) fun j ⟨d, e⟩ => by simpa using hs (j + 1) ⟨d, by simpa using e⟩) dj un
theorem Rl.empty (h : Rl K T G F r t σ tv H) (i : Nat) : Rl K T G F (r.set i none) t σ tv H := by
  obtain ⟨⟨Ps, Pt, h1, h2, dj, hq⟩, b1, b2, b3, b4, b5, b6⟩ := h
  obtain ⟨P', g, s⟩ := ows_give h1 i
  exact ⟨⟨P', Pt, g, h2, fun a z w => dj a (s a z) w, fun a z => hq a (z.imp (s a) id)⟩, b1, b2, b3, b4, b5, b6⟩
theorem Rl.reval {σ' : L2.St} (h : Rl K T G F r t σ tv H) (hl : σ'.length = σ.length) (hs : ∀ j : Nat, (∃ d, r[j]? = some (some d)) → σ'[j]? = σ[j]?) (hp : ∀ i v, G.pin i = some v → σ'[i]? = σ[i]?) : Rl K T G F r t σ' tv H := by
  obtain ⟨⟨Ps, Pt, h1, h2, dj, hq⟩, b1, b2, b3, b4, b5, b6⟩ := h
  exact ⟨⟨Ps, Pt, ows_reval h1 hl hs, h2, dj, hq⟩, b1, b2, b3, b4, fun i v e => (hp i v e).trans (b5 i v e), b6⟩
theorem hide_get : ∀ (own : List Nat) (r : VS) (j : Nat), (j ∉ own → (hide own r)[j]? = r[j]?) ∧ (j ∈ own → ∀ d, (hide own r)[j]? ≠ some (some d))
  | [], r, j => ⟨fun _ => rfl, fun h => by simp at h⟩
  | i :: own, r, j => by
    have ih := hide_get own (r.set i none) j
    refine ⟨fun h => ?_, fun h d e => ?_⟩
    · have h1 : i ≠ j := fun z => h (by simp [z])
      have h2 : j ∉ own := fun z => h (List.mem_cons_of_mem _ z)
      exact (ih.1 h2).trans (List.getElem?_set_ne h1)
    · by_cases h2 : j ∈ own
      · exact ih.2 h2 d e
      · have e1 : i = j := by
          rcases List.mem_cons.mp h with z | z
          · exact z.symm
          · exact absurd z h2
        have e2 : (r.set i none)[j]? = some (some d) := (ih.1 h2).symm.trans e
        subst e1
        by_cases hl : i < r.length
        · rw [List.getElem?_set_self hl] at e2; cases e2
        · rw [List.getElem?_eq_none (by rw [List.length_set]; omega)] at e2; cases e2
theorem Rl.hide : ∀ (own : List Nat) {r : VS}, Rl K T G F r t σ tv H → Rl K T G F (hide own r) t σ tv H
  | [], _, h => h
  | i :: own, _, h => Rl.hide own (h.empty i)
theorem wipe_get (σ : L2.St) : ∀ (own : List Nat) (j : Nat), j ∉ own → (wipe σ own)[j]? = σ[j]?
  | [], _, _ => rfl
  | v :: vs, j, h => by
    show ((wipe σ vs).set v none)[j]? = _
    rw [List.getElem?_set_ne (fun z => h (by simp [z])), wipe_get σ vs j fun z => h (List.mem_cons_of_mem _ z)]
theorem wipe_in (σ : L2.St) : ∀ (own : List Nat) (j : Nat), j ∈ own → (wipe σ own)[j]? = if j < σ.length then some none else none
  | v :: vs, j, h => by
    show ((wipe σ vs).set v none)[j]? = _
    by_cases e : v = j
    · subst e
      by_cases hl : v < σ.length
      · rw [List.getElem?_set_self (by rw [wipe_length]; exact hl), if_pos hl]
      · rw [List.getElem?_eq_none (by rw [List.length_set, wipe_length]; omega), if_neg hl]
    · rw [List.getElem?_set_ne e]
      refine wipe_in σ vs j ?_
      rcases List.mem_cons.mp h with z | z
      · exact absurd z.symm e
      · exact z
theorem wipe_off {own sl : List Nat} {σ σ' : L2.St} (hs : ∀ j ∈ sl, j ∈ own) (h : Off sl (wipe σ own) σ') : wipe σ' own = wipe σ own := by
  obtain ⟨hl, h⟩ := h
  rw [wipe_length] at hl
  refine List.ext_getElem? fun j => ?_
  by_cases hj : j ∈ own
  · rw [wipe_in _ _ _ hj, wipe_in _ _ _ hj, hl]
  · rw [wipe_get _ _ _ hj, h j fun z => hj (hs j z)]
theorem Rl.unhide (hr0 : ∀ i d, slot? i r = some d → d.shr = true → ∃ v, σ[i]? = some (some v) ∧ Fz K T F d v) : ∀ (own : List Nat) {r1 : VS}, Rl K T G F r1 t σ tv H → Rl K T G F (unhide own r r1) t σ tv H
  | [], _, h => h
  | i :: own, r1, h => by
    refine Rl.unhide hr0 own ?_
    dsimp only
    cases e : slot? i r with
    | none => exact h
    | some d =>
      dsimp only
      split
      · rename_i hc
        obtain ⟨v, ev, fz⟩ := hr0 i d e hc.1
        have h2 := (h.push fz).put hc.2 fun w ew => by
          have := h.pin i w ew
          rw [ev] at this
          exact Option.some.inj (Option.some.inj this)
        rw [set_same ev] at h2
        exact h2
      · exact h
/-- the top temporary goes into the list below it -/
theorem Rl.appendTop {acc : List D} {D0 : Addr} {y : D} {yv : V} {vs : List V} (h : Rl K T G F r (y :: .node true .lst acc :: t) σ (yv :: .ref D0 :: tv) H) : ∃ vs, H D0 = some (.lst vs) ∧ acc.length = vs.length ∧ Rl K T G F r (.node true .lst (acc ++ [y]) :: t) σ (.ref D0 :: tv) (upd H D0 (.lst (vs ++ [yv]))) := by
  obtain ⟨⟨Ps, Pt, h1, h2, dj, hq⟩, b1, b2, b3, b4, b5, b6⟩ := h
  cases h2 with
  | @cons _ _ _ _ _ A B oy h2 dj2 un =>
    cases h2 with
    | @cons _ _ _ _ _ A2 B2 ol h2 dj3 un2 =>
      cases ol with
      | @own a dx k vs ds _ P0 hn hl n1 n2 f1 f2 hp =>
        obtain ⟨_, C, e1, e2⟩ := hn
        have e2 : dx = D0 := e2
        subst e2
        have e1 : H dx = some (.lst vs) := e1
        have pd : A2 dx := (hp dx).mpr (.inl (.inl rfl))
        have keep : ∀ {Q : Ft}, (∀ a, Q a → ¬ A2 a) → ∀ a, Q a → upd H dx (.lst (vs ++ [yv])) a = H a := fun hQ a z => upd_ne fun e => hQ a z (by rw [e]; exact pd)
        have keep0 : ∀ a, P0 a → upd H dx (.lst (vs ++ [yv])) a = H a := fun a z => upd_ne fun e => n1 (by rw [← e]; exact z)
        have dS : ∀ a, Ps a → ¬ A2 a := fun a z w => dj a z ((un a).mpr (.inr ((un2 a).mpr (.inl w))))
        have dA : ∀ a, A a → ¬ A2 a := fun a z w => dj2 a z ((un2 a).mpr (.inl w))
        have dB : ∀ a, B2 a → ¬ A2 a := fun a z w => dj3 a w z
        refine ⟨vs, e1, hl.length, ⟨Ps, fun a => (((a = dx ∨ a = dx) ∨ (P0 a ∨ A a)) ∨ B2 a), h1.frame (Same.refl _) (keep dS) fun a z => (h1.at z).1, ?_, ?_, ?_⟩, ?_, ?_, b3, b4, b5, tabs_upd b6 e1 trivial⟩
        · refine .cons (P1 := fun a => ((a = dx ∨ a = dx) ∨ (P0 a ∨ A a))) (P2 := B2) (.own (dx := dx) (vs := vs ++ [yv]) (P0 := fun a => P0 a ∨ A a) ⟨⟨trivial, trivial⟩, 0, upd_same, rfl⟩ ?_ ?_ ?_ f1 f1 fun _ => Iff.rfl) (h2.frame (Same.refl _) (keep dB) fun a z => (h2.at z).1) ?_ fun _ => Iff.rfl
          · refine OwL.join (hl.frame (Same.refl _) keep0 fun a z => (hl.at z).1) (OwL.one (oy.frame (Same.refl _) (keep dA) fun a z => (oy.at z).1)) (fun a z w => dA a w ((hp a).mpr (.inr z))) fun _ => Iff.rfl
          · rintro (z | z)
            · exact n1 z
            · exact dA _ z pd
          · rintro (z | z)
            · exact n1 z
            · exact dA _ z pd
          · intro a z w
            rcases z with (rfl | rfl) | z | z
            · exact dB _ w pd
            · exact dB _ w pd
            · exact dB _ w ((hp a).mpr (.inr z))
            · exact dj2 a z ((un2 a).mpr (.inr w))
        · intro a z w
          rcases w with ((rfl | rfl) | w | w) | w
          · exact dS _ z pd
          · exact dS _ z pd
          · exact dS _ z ((hp a).mpr (.inr w))
          · exact dj a z ((un a).mpr (.inl w))
          · exact dj a z ((un a).mpr (.inr ((un2 a).mpr (.inr w))))
        · intro a z
          rcases z with z | ((rfl | rfl) | z | z) | z
          · exact hq a (.inl z)
          · exact hq _ (.inr ((un _).mpr (.inr ((un2 _).mpr (.inl pd)))))
          · exact hq _ (.inr ((un _).mpr (.inr ((un2 _).mpr (.inl pd)))))
          · exact hq a (.inr ((un a).mpr (.inr ((un2 a).mpr (.inl ((hp a).mpr (.inr z)))))))
          · exact hq a (.inr ((un a).mpr (.inl z)))
          · exact hq a (.inr ((un a).mpr (.inr ((un2 a).mpr (.inr z)))))
        · exact fun a o e => by
            rw [upd_ne (fun z => by rw [z, f1] at e; cases e)]
            exact b1 a o e
        · intro a o e n
          have : a ≠ dx := fun z => by
            rcases hq dx (.inr ((un dx).mpr (.inr ((un2 dx).mpr (.inl pd))))) with w | w
            · exact n (by rw [z]; exact w)
            · rw [z, w] at e; cases e
          rw [upd_ne this]
          exact b2 a o e n
end

/-! ### list comprehensions -/
def M.calm {α : Type} (m : M α) : M α := fun r => match m r with
  | .ex _ _ => .no
  | x => x
theorem sat_calm {α : Type} {m : M α} {r : VS} {ok : α → VS → Prop} {ex ex' : String → VS → Prop} (h : (M.calm m r).sat ok ex) : (m r).sat ok ex' := by
  unfold M.calm at h
  cases e : m r with
  | ok a r' => rw [e] at h; exact h
  | ex c r' => rw [e] at h; exact h.elim
  | no => rw [e] at h; exact h
def mToU (g : Gt) (d : D) : M Unit := fun r => match g d r with
  | some r' => .ok () r'
  | none => .no
theorem sat_toU {g : Gt} {d : D} {r : VS} {ok : Unit → VS → Prop} {ex : String → VS → Prop} (h : (mToU g d r).sat ok ex) : ∃ r', g d r = some r' ∧ ok () r' := by
  unfold mToU at h
  cases e : g d r with
  | none => rw [e] at h; exact h.elim
  | some r' => rw [e] at h; exact ⟨r', rfl, h⟩
def mHide (own : List Nat) : M Unit := fun r => .ok () (hide own r)
def lcL (own : List Nat) (g : Gt) (c : M Bool) (el : M D) : List D → List D → M (List D)
  | [], acc => M.bind (mHide own) fun _ => M.ret acc
  | d :: ds, acc => M.bind (mHide own) fun _ => M.bind (mToU g d) fun _ => M.bind (M.calm c) fun b => if b = true then M.bind (M.calm el) fun y => M.bind (M.ck (decide (acc.length < sizeLine))) fun _ => lcL own g c el ds (acc ++ [y]) else lcL own g c el ds acc
def mYes : M Bool := M.ret true
section
variable {T : String → Option Addr} {io : Io} {X : Cx} {W : WX} {p p1 p2 : Bool} {pos : Pos}
def QTs (T : String → Option Addr) (io : Io) (X : Cx) (W : WX) (p : Bool) (e : List Expr) (m : M Bool) : Prop := ∀ G, Pins io G → PTs X e (tT X.K T G W p m)
theorem qts_nil : QTs T io X W true [] mYes := fun G g => ⟨fun pins s σ H Q I ⟨F, r, t, tv, h1, h2⟩ => pts_nil.run pins s σ H Q I (h2 F H (Same.refl _) (fun _ => Same.refl _) h1)⟩
/-- the comprehension's reading, over a walk -/
theorem lc_walks {K : PySem.W.Frag} {G : Gm} {own : List Nat} {g : Gt} {sl : List Nat} {pg : Bool} {c : M Bool} {el : M D} {J : It} {F : Hp} {ds : List D} {Pv : Hp → Prop} {r : VS} {t : List D} {tv : List V} {σ : L2.St} {H Hp0 : Hp} {D0 : Addr} {Q : Hp → Prop}
    (hD : Hp0 D0 = none) (hS : Same Hp0 H) (w : Walks K T J F ds Pv) (hv : ∀ F' H', Same F F' → Same F' H' → Pv H') (hsl : ∀ j ∈ sl, j ∈ own) (hpo : ∀ i v, G.pin i = some v → i ∉ own) (h1 : Rl K T G F r (.node true .lst [] :: t) σ (.ref D0 :: tv) H)
    (h2 : (lcL own g c el ds [] r).sat (fun ys r' => ∀ F' H', Same F F' → ((pg && (p1 && p2)) = true → Same Hp0 H') → Rl K T G F' r' (.node true .lst ys :: t) σ (.ref D0 :: tv) H' → Q H') fun _ _ => False) :
    ∃ W' : Nat → Nat → Hp → Prop, (∃ m, W' 0 m H) ∧ ∀ i m H, W' i m H →
      (J.stop i H ∧ Q H) ∨ (J.go i H ∧ ∃ Nx : Hp → Prop, (∀ H', Nx H' → ∃ m', m' < m ∧ W' (i + 1) m' H') ∧ ∀ x H', J.yld i H x H' → tG K T G sl pg g x (wipe σ own) H' fun σ2 H2 => wipe σ2 own = wipe σ own ∧ tT K T G W0 p1 c σ2 H2 fun b H3 =>
        if b = true then tE K T G W0 p2 el σ2 H3 fun y H4 => ∃ acc, H4 D0 = some (.lst acc) ∧ acc.length < sizeLine ∧ Nx (upd H4 D0 (.lst (acc ++ [y]))) else Nx H3) := by
  let Inv := fun (i : Nat) (H : Hp) => ∃ F' r' σ' acc, Same F F' ∧ ((pg && (p1 && p2)) = true → Same Hp0 H) ∧ wipe σ' own = wipe σ own ∧ Rl K T G F' r' (.node true .lst acc :: t) σ' (.ref D0 :: tv) H ∧ (lcL own g c el (ds.drop i) acc r').sat (fun ys r' => ∀ F' H', Same F F' → ((pg && (p1 && p2)) = true → Same Hp0 H') → Rl K T G F' r' (.node true .lst ys :: t) σ (.ref D0 :: tv) H' → Q H') fun _ _ => False
  -- the slots wiped
  have wiped : ∀ {F' : Hp} {r' : VS} {σ' : L2.St} {t' : List D} {tv' : List V} {H' : Hp} (τ : L2.St), τ.length = σ'.length → (∀ j, j ∉ own → τ[j]? = σ'[j]?) → Rl K T G F' r' t' σ' tv' H' → Rl K T G F' (hide own r') t' τ tv' H' := by
    intro F' r' σ' t' tv' H' τ hl ht h
    refine (h.hide own).reval hl (fun j ⟨d, e⟩ => ht j fun z => (hide_get own r' j).2 z d e) fun i v e => ht i (hpo i v e)
  have sameOut : ∀ {σ' : L2.St}, wipe σ' own = wipe σ own → σ'.length = σ.length ∧ ∀ j, j ∉ own → σ'[j]? = σ[j]? := by
    intro σ' e
    refine ⟨by have := congrArg List.length e; rwa [wipe_length, wipe_length] at this, fun j hj => ?_⟩
    rw [← wipe_get σ' own j hj, e, wipe_get σ own j hj]
  refine ⟨fun i m H => m = ds.length - i ∧ i ≤ ds.length ∧ Inv i H, ⟨ds.length, by simp, Nat.zero_le _, F, r, σ, [], Same.refl _, fun _ => hS, rfl, h1, by simpa using h2⟩, ?_⟩
  rintro i m H1 ⟨rfl, hi, F1, r1, σ1, acc, s1, z1, ew, h3, q⟩
  have pv := hv F1 H1 s1 h3.sub
  obtain ⟨hlen, hout⟩ := sameOut ew
  by_cases hlt : i < ds.length
  · refine .inr ⟨w.go i H1 pv hlt, fun H' => Inv (i + 1) H', fun H' h => ⟨ds.length - (i + 1), by omega, rfl, hlt, h⟩, fun x H2 y => ?_⟩
    have ed : ds.drop i = ds[i] :: ds.drop (i + 1) := List.drop_eq_getElem_cons hlt
    rw [ed] at q
    have rs := (w.yld i H1 x H2 ds[i] pv (List.getElem?_eq_getElem hlt) y).mono s1
    have q := sat_bind q
    obtain ⟨r2, e2, q⟩ := sat_toU (sat_bind (m := mToU g ds[i]) (r := hide own r1) q)
    have h4 := wiped (wipe σ own) (by rw [wipe_length, hlen]) (fun j hj => by rw [wipe_get σ own j hj, hout j hj]) h3
    obtain ⟨F5, s5, h5', z5⟩ := h4.res rs
    replace s1 := s1.trans s5
    replace z1 := fun z => (z1 z).trans z5
    refine ⟨F5, hide own r1, _, _, ds[i], r2, h5', e2, fun σ2 F2 H2 o2 s2 z2 h5 => ?_⟩
    have ew2 := wipe_off hsl o2
    refine ⟨ew2, F2, r2, _, _, h5, (sat_calm (ex' := fun _ _ => False) (sat_bind q)).mono (fun b r3 q F3 H3 s3 z3 h6 => ?_) fun c r' q => q.elim⟩
    · cases b with
      | false =>
        rw [if_neg Bool.false_ne_true] at q ⊢
        exact ⟨F3, r3, σ2, acc, (s1.trans s2).trans s3, fun z => ((z1 z).trans (z2 (andL z))).trans (z3 (andL (andR z))), ew2, h6, q⟩
      | true =>
        rw [if_pos rfl] at q ⊢
        refine ⟨F3, r3, _, _, h6, (sat_calm (ex' := fun _ _ => False) (sat_bind q)).mono (fun y r4 q yv F4 H4 s4 z4 h7 => ?_) fun c r' q => q.elim⟩
        · obtain ⟨hz, q⟩ := sat_ck (sat_bind q)
          obtain ⟨vs, e5, hlv, h8⟩ := h7.appendTop (vs := [])
          refine ⟨vs, e5, by rw [← hlv]; exact of_decide_eq_true hz, F4, r4, σ2, acc ++ [y], ((s1.trans s2).trans s3).trans s4, fun z => ?_, ew2, h8, q⟩
          have zz := (((z1 z).trans (z2 (andL z))).trans (z3 (andL (andR z)))).trans (z4 (andR (andR z)))
          intro b o e
          rw [upd_ne (ne_of_none e hD)]
          exact zz b o e
  · have e : i = ds.length := by omega
    subst e
    rw [List.drop_eq_nil_of_le (Nat.le_refl _)] at q
    have h4 := wiped σ hlen.symm (fun j hj => (hout j hj).symm) h3
    exact .inl ⟨w.stop H1 pv, sat_bind q F1 H1 s1 z1 h4⟩

/-- the comprehension as a value, from its reading -/
theorem lc_imp {G : Gm} {own : List Nat} {g : Gt} {sl : List Nat} {pg : Bool} {c : M Bool} {el : M D} {J : It} {F : Hp} {ds : List D} {Pv : Hp → Prop} {r : VS} {t : List D} {tv : List V} {σ : L2.St} {H : Hp} {Q : VK} {K : PySem.W.Frag}
    (w : Walks K T J F ds Pv) (hv : ∀ F' H', Same F F' → Same F' H' → Pv H') (hsl : ∀ j ∈ sl, j ∈ own) (hpo : ∀ i v, G.pin i = some v → i ∉ own) (h1 : Rl K T G F r t σ tv H)
    (h2 : ((fun r => match lcL own g c el ds [] r with | .ok ys r' => R.ok (D.lst true ys) (unhide own r r') | _ => .no) r : R D).sat (fun d r' => ∀ v F' H', Same F F' → ((pg && (p1 && p2)) = true → Same H H') → Rl K T G F' r' (d :: t) σ (v :: tv) H' → Q v H') fun _ _ => False) :
    ∀ D0, H D0 = none → ∃ W' : Nat → Nat → Hp → Prop, (∃ m, W' 0 m (upd H D0 (.lst []))) ∧ ∀ i m H, W' i m H →
      (J.stop i H ∧ Q (.ref D0) H) ∨ (J.go i H ∧ ∃ Nx : Hp → Prop, (∀ H', Nx H' → ∃ m', m' < m ∧ W' (i + 1) m' H') ∧ ∀ x H', J.yld i H x H' → tG K T G sl pg g x (wipe σ own) H' fun σ2 H2 => wipe σ2 own = wipe σ own ∧ tT K T G W0 p1 c σ2 H2 fun b H3 =>
        if b = true then tE K T G W0 p2 el σ2 H3 fun y H4 => ∃ acc, H4 D0 = some (.lst acc) ∧ acc.length < sizeLine ∧ Nx (upd H4 D0 (.lst (acc ++ [y]))) else Nx H3) := by
  intro D0 hD
  have h3 := Rl.alloc (k := .lst) (ds := []) (vs := []) (fun _ _ z => nomatch z) rfl trivial h1 hD
  refine lc_walks hD (same_upd hD) w hv hsl hpo h3 ?_
  dsimp only at h2
  cases e : lcL own g c el ds [] r with
  | no => rw [e] at h2; exact h2.elim
  | ex _ _ => rw [e] at h2; exact h2.elim
  | ok ys r' =>
    rw [e] at h2
    intro F' H' s1 z1 h4
    refine h2 (.ref D0) F' H' s1 z1 (Rl.unhide (fun i d e hs => ?_) own h4)
    obtain ⟨v, ev, lk⟩ := h1.look (slot?_eq e)
    exact ⟨v, ev, (lk.shr hs).mono s1⟩
end
end VL

/-! VL9: items, slices, list methods on a name, isinstance, except .. as. -/
namespace VL
open PySem PySem.Spec L2

section
variable {T : String → Option Addr} {io : Io} {X : Cx} {W : WX} {p p1 p2 : Bool} {pos : Pos}
/-- a looked-at answer that may be shared -/
def mSh (a : M D) : M D := M.bind a fun d => M.bind (M.ck d.shr) fun _ => M.ret d
theorem qe_sh {e : Expr} {a : M D} (h : QB T io X W p e a) : QE T io X W p e (mSh a) := fun G g => PE.imp (h G g) fun σ H Q ⟨F, r, t, tv, h1, h2⟩ => by
  refine ⟨F, r, t, tv, h1, (sat_bind h2).mono (fun d r1 q v F1 H1 s1 s2 h3 lk => ?_) fun _ _ q => q⟩
  obtain ⟨hs, q⟩ := sat_ck (sat_bind q)
  exact q v F1 H1 s1 s2 (h3.push (lk.shr hs))
/-- rules whose answer is looked at -/
def Op2B (K : PySem.W.Frag) (T : String → Option Addr) (f : D → D → Option D) (r : R2) : Prop := ∀ (F H : Hp) (d e : D) (x y : V) (d' : D) (Q : VK), f d e = some d' → Same F H → Lk K T F H d x → Lk K T F H e y → (∀ v, Lk K T F H d' v → Q v H) → r x y H Q
theorem imp2B {K : PySem.W.Frag} {G : Gm} {f : D → D → Option D} {r : R2} {a b : M D} {σ : L2.St} {H : Hp} {Q : VK} (hf : Op2B K T f r) (h : tB K T G W p (mOp2 f a b) σ H Q) : tOp r (tB K T G W p a) (tB K T G W true b) σ H Q := by
  obtain ⟨F, r0, t, tv, h1, h2⟩ := h
  refine ⟨F, r0, t, tv, h1, (sat_bind h2).mono (fun d r1 q v F1 H1 s1 s2 h3 lk => ?_) fun _ _ q => q⟩
  refine ⟨F1, r1, t, tv, h3, (sat_bind q).mono (fun d2 r2 q v2 F2 H2 s3 s4 h4 lk2 => ?_) fun _ _ q => q.trans s1⟩
  obtain ⟨d', e2, q⟩ := sat_opt q
  exact hf F2 H2 d d2 v v2 d' Q e2 h4.sub (lk.mono s3 (s4 rfl)) lk2 fun u lk3 => q u F2 H2 (s1.trans s3) (fun z => (s2 z).trans (s4 rfl)) h4 lk3
/-- x[i]: lists, tuples, texts -/
def fIx : D → D → Option D
  | .node _ .lst ds, .leaf (.int i) => atI ds i
  | .node _ .tup ds, .leaf (.int i) => atI ds i
  | .leaf (.str z), .leaf (.int i) => if z.length ≤ sizeLine then (atI z.cps.toList i).map fun c => .str ⟨#[c]⟩ else none
  | _, _ => none
theorem atI_lk {K : PySem.W.Frag} {F H : Hp} {ds : List D} {vs : List V} {i : Int} {d : D} (l : LkL K T F H ds vs) (h : atI ds i = some d) : ∃ v, atI vs i = some v ∧ Lk K T F H d v := by
  unfold atI at h ⊢
  rw [← l.length]
  cases e : ixN ds.length i with
  | none => rw [e] at h; cases h
  | some j => rw [e] at h; exact l.get h
theorem ix_ok {K : PySem.W.Frag} : Op2B K T fIx (rIx K) := by
  intro F H d e x y d' Q hf s l1 l2 q
  unfold fIx at hf
  split at hf
  · obtain ⟨a, vs, rfl, hn, hl⟩ := l1.node s
    cases lk_leaf l2
    obtain ⟨v, e1, lk⟩ := atI_lk hl hf
    exact .inl ⟨a, vs, _, v, rfl, rfl, hn.2, e1, q v lk⟩
  · obtain ⟨a, vs, rfl, hn, hl⟩ := l1.node s
    cases lk_leaf l2
    obtain ⟨v, e1, lk⟩ := atI_lk hl hf
    exact .inr (.inl ⟨a, vs, _, v, rfl, rfl, hn.sqT, e1, q v lk⟩)
  · split at hf
    · rename_i z i hz
      cases e1 : atI z.cps.toList i with
      | none => rw [e1] at hf; cases hf
      | some c =>
        rw [e1] at hf; cases hf
        cases lk_leaf l1; cases lk_leaf l2
        exact .inr (.inr ⟨z, i, c, rfl, rfl, hz, e1, q _ (.leaf rfl)⟩)
    · cases hf
  · cases hf
def mIx (a b : M D) : M D := mOp2 fIx a b
theorem qb_ix {a b : Expr} {ma mb : M D} (ha : QB T io X W p a ma) (hb : QB T io X W true b mb) (hs : PlainIx b := by exact fun _ _ => rfl) : QB T io X W p (.Subscript a b pos) (mIx ma mb) := fun G g => PE.imp (pe_ix ix_seq (ha G g) (hb G g) hs) fun _ _ _ h => imp2B ix_ok h

/-! ### slices -/
def QO (T : String → Option Addr) (io : Io) (X : Cx) (W : WX) (e : Option Expr) (m : M (Option Int)) : Prop := ∀ G, Pins io G → PO X e (fun σ H Q => ∃ F r t tv, Rl X.K T G F r t σ tv H ∧ (m r).sat (fun o r' => ∀ F' H', Same F F' → Same H H' → Rl X.K T G F' r' t σ tv H' → Q o H') (exP X.K T G W σ t tv F))
theorem PO.imp {X : Cx} {e : Option Expr} {t t' : TO} (h : PO X e t) (i : ∀ σ H Q, t' σ H Q → t σ H Q) : PO X e t' := ⟨fun pins s σ H Q I q => h.run pins s σ H Q I (i σ H Q q)⟩
def mPart (a : M D) : M (Option Int) := M.bind a fun d => M.bind (M.opt (int? d)) fun i => M.ret (some i)
theorem qo_none : QO T io X W none (M.ret none) := fun G g => PO.imp po_none fun σ H Q ⟨F, r, t, tv, h1, h2⟩ => h2 F H (Same.refl _) (Same.refl _) h1
theorem qo_some {e : Expr} {a : M D} (h : QB T io X W true e a) : QO T io X W (some e) (mPart a) := fun G g => PO.imp (po_some (h G g)) fun σ H Q ⟨F, r, t, tv, h1, h2⟩ => by
  refine ⟨F, r, t, tv, h1, (sat_bind h2).mono (fun d r1 q v F1 H1 s1 s2 h3 lk => ?_) fun _ _ q => q⟩
  obtain ⟨i, e, q⟩ := sat_opt (sat_bind q)
  exact ⟨i, lk_int lk e, q F1 H1 s1 (s2 rfl) h3⟩
def cutD (xs : List D) (lo hi : Option Int) : List D := (xs.drop (HT.sIx xs.length 0 lo)).take (HT.sIx xs.length xs.length hi - HT.sIx xs.length 0 lo)
def fSl (d : D) (lo hi : Option Int) : Option D := match d with
  | .node _ .lst ds => if (cutD ds lo hi).all D.shr = true then some (.lst true (cutD ds lo hi)) else none
  | .leaf (.str z) => if z.length ≤ sizeLine then some (.str (cutS z lo hi)) else none
  | .node _ .tup ds => if ¬ (HT.sIx ds.length 0 lo = 0 ∧ HT.sIx ds.length ds.length hi = ds.length) ∧ (cutD ds lo hi).all D.shr = true then some (.tup false (cutD ds lo hi)) else none
  | _ => none
def mSl (a : M D) (lo hi : M (Option Int)) : M D := M.bind a fun d => M.bind lo fun i => M.bind hi fun j => M.opt (fSl d i j)
theorem LkL.drop {K : PySem.W.Frag} {F H : Hp} : ∀ {ds : List D} {vs : List V} (n : Nat), LkL K T F H ds vs → LkL K T F H (ds.drop n) (vs.drop n)
  | _, _, 0, h => h
  | [], _, n + 1, h => by cases h; exact .nil
  | d :: ds, _, n + 1, h => by cases h with | cons a b => exact LkL.drop n b
theorem LkL.take {K : PySem.W.Frag} {F H : Hp} : ∀ {ds : List D} {vs : List V} (n : Nat), LkL K T F H ds vs → LkL K T F H (ds.take n) (vs.take n)
  | _, _, 0, h => .nil
  | [], _, n + 1, h => by cases h; exact .nil
  | d :: ds, _, n + 1, h => by cases h with | cons a b => exact .cons a (LkL.take n b)
theorem sl_ok : SlR X (fun x lo hi H Q => rSlL X.K x lo hi H Q ∨ (rSlS x lo hi H Q ∨ rSlT X.K x lo hi H Q)) := sl_list.or (sl_str.or sl_tup)
theorem qe_sl {a : Expr} {lo hi : Option Expr} {q2 : Pos} {ma : M D} {ml mh : M (Option Int)} (ha : QB T io X W p a ma) (hl : QO T io X W lo ml) (hh : QO T io X W hi mh) : QE T io X W p (.Subscript a (.Slice lo hi none q2) pos) (mSl ma ml mh) :=
  fun G g => PE.imp (pe_slice sl_ok (ha G g) (hl G g) (hh G g)) fun σ H Q ⟨F, r, t, tv, h1, h2⟩ => by
    refine ⟨F, r, t, tv, h1, (sat_bind h2).mono (fun d r1 q v F1 H1 s1 s2 h3 lk => ?_) fun _ _ q => q⟩
    refine ⟨F1, r1, t, tv, h3, (sat_bind q).mono (fun i r2 q F2 H2 s3 s4 h4 => ?_) fun _ _ q => q.trans s1⟩
    refine ⟨F2, r2, t, tv, h4, (sat_bind q).mono (fun j r3 q F3 H3 s5 s6 h5 => ?_) fun _ _ q => q.trans (s1.trans s3)⟩
    obtain ⟨d', e, q⟩ := sat_opt q
    have lk := (lk.mono s3 s4).mono s5 s6
    unfold fSl at e
    split at e
    · split at e
      · rename_i hs
        cases e
        obtain ⟨b, vs, rfl, hn, hl⟩ := lk.node h5.sub
        refine .inl ⟨b, vs, rfl, hn.2, fun c hc => ?_⟩
        have hcl : ∀ {ds' : List D}, LkL X.K T F3 H3 ds' vs → LkL X.K T F3 H3 (cutD ds' i j) (cutV vs i j) := fun {ds'} hl => by
          unfold cutD cutV
          rw [hl.length]
          exact (hl.drop _).take _
        have hcl := hcl hl
        obtain ⟨F4, s7, h6, s8⟩ := h5.res (.new (k := .lst) (vs := cutV vs i j) (fun _ _ z => nomatch z) trivial (hcl.shr hs) hc)
        exact q (.ref c) F4 _ (((s1.trans s3).trans s5).trans s7) (fun z => (((s2 z).trans s4).trans s6).trans s8) h6
      · cases e
    · split at e
      · rename_i hz
        cases e
        refine .inr (.inl ⟨_, lk_leaf lk, hz, ?_⟩)
        exact q _ F3 H3 ((s1.trans s3).trans s5) (fun z => ((s2 z).trans s4).trans s6) (h5.push (.leaf rfl))
      · cases e
    · split at e
      · rename_i hs
        cases e
        obtain ⟨b, vs, rfl, hn, hl⟩ := lk.node h5.sub
        refine .inr (.inr ⟨b, vs, rfl, hn.sqT, by rw [← hl.length]; exact hs.1, fun c hc => ?_⟩)
        have hcl : ∀ {ds' : List D}, LkL X.K T F3 H3 ds' vs → LkL X.K T F3 H3 (cutD ds' i j) (cutV vs i j) := fun {ds'} hl => by
          unfold cutD cutV
          rw [hl.length]
          exact (hl.drop _).take _
        have hcl := hcl hl
        obtain ⟨F4, s7, h6, s8⟩ := h5.res (.newF (k := .tup) (vs := cutV vs i j) (fun _ _ z => nomatch z) trivial (hcl.shr hs.2) hc)
        exact q (.ref c) F4 _ (((s1.trans s3).trans s5).trans s7) (fun z => (((s2 z).trans s4).trans s6).trans s8) h6
      · cases e
    · cases e

/-! ### list methods on a name -/
theorem Rl.swap {K : PySem.W.Frag} {G : Gm} {F H : Hp} {r : VS} {t : List D} {σ : L2.St} {tv : List V} {d e : D} {v u : V} (h : Rl K T G F r (d :: e :: t) σ (v :: u :: tv) H) : Rl K T G F r (e :: d :: t) σ (u :: v :: tv) H :=
  Rl.lift (ds := [d]) (vs := [v]) rfl h
def ownL? (i : Nat) (r : VS) : Option (List D) := match slot? i r with
  | some (.node true .lst ds) => some ds
  | _ => none
theorem ownL?_eq {i : Nat} {r : VS} {ds : List D} (h : ownL? i r = some ds) : slot? i r = some (.node true .lst ds) := by
  unfold ownL? at h
  split at h
  · rename_i e; cases h; exact e
  · cases h
def isL (i : Nat) (r : VS) : Bool := match slot? i r with
  | some (.node _ .lst _) => true
  | _ => false
theorem isL_lk {K : PySem.W.Frag} {G : Gm} {F H : Hp} {r : VS} {t : List D} {σ : L2.St} {tv : List V} {i : Nat} (h : Rl K T G F r t σ tv H) (e : isL i r = true) : ∃ a vs, σ[i]? = some (some (.ref a)) ∧ SqL K H a vs := by
  unfold isL at e
  split at e
  · rename_i e1
    obtain ⟨v, ev, lk⟩ := h.look (slot?_eq e1)
    obtain ⟨a, vs, rfl, hn, _⟩ := lk.node h.sub
    exact ⟨a, vs, ev, hn.2⟩
  · cases e
/-- x.append(e) -/
def mAppend (i : Nat) (a : M D) : M D := fun r => if isL i r = true then M.bind a (fun d r' => match ownL? i r' with
  | some ds => if ds.length < sizeLine then .ok .non (r'.set i (some (.lst true (ds ++ [d])))) else .no
  | none => .no) r else .no
theorem qe_append {i : Nat} {x : Str} {e : Expr} {apos np : Pos} {a : M D} (hN : X.N[i]? = some x) (hv : Vis X.env.scope x) (ha : QE T io X W p e a) (hd : (x == ("__debug__" : Str)) = false := by decide) (hcd : (x == ("__classdict__" : Str)) = false := by decide)
    (hst : starEach [e] X.env = [(false, eval e X.env)] := by rfl)
    (hbase : attributeBase (.Name x np) ("append" : Str) X.env (eval (.Name x np) X.env) = eval (.Name x np) X.env := by rfl)
    (hfew : ((backTo pos (starEach [e] X.env)).all (fun x => !x.1) && (backToKw pos (keywordEach [] X.env)).all (fun x => x.1.isSome) && decide (([e] : List Expr).length + ([] : List Keyword).length + (if ([] : List Keyword).isEmpty then 0 else 1) < 30)) = true := by rfl)
    (hline : (apos.endLine == pos.line) = true := by rfl) (hplain : (backTo pos (starEach [] X.env)).any (·.1) = false := by rfl) :
    QE T io X W false (.Call (.Attribute (.Name x np) "append" apos) [e] [] pos) (mAppend i a) := fun G g => PE.imp (pe_bm PySem.F.plainAttrs_list PySem.F.slot_list_append PySem.F.type_list_append mt_append (pe_var hN hv hd hcd) (pa_cons (ha G g) pa_nil hst) hbase hfew hline hst hplain) fun σ H Q ⟨F, r, t, tv, h1, h2⟩ => by
  unfold mAppend at h2
  split at h2
  · rename_i hL
    obtain ⟨c, vs0, ec, hc⟩ := isL_lk h1 hL
    refine ⟨_, ec, .inl ⟨rfl, vs0, hc⟩, F, r, t, tv, h1, (sat_bind h2).mono (fun d r1 q v F1 H1 s1 s2 h3 => ?_) fun _ _ q => q⟩
    cases e1 : ownL? i r1 with
    | none => rw [e1] at q; exact q.elim
    | some ds =>
      rw [e1] at q
      dsimp only at q
      split at q
      · rename_i hz
        have es := slot?_eq (ownL?_eq e1)
        obtain ⟨x, ex, h4⟩ := h3.take es
        rw [ec] at ex
        have ex : V.ref c = x := Option.some.inj (Option.some.inj ex)
        subst ex
        obtain ⟨vs, e2, hl, h5⟩ := h4.swap.appendTop (vs := [])
        refine ⟨c, vs, v, rfl, rfl, e2, by rw [← hl]; exact hz, ?_⟩
        have hi : i < (r1.set i none).length := by rw [List.length_set]; exact (List.getElem?_eq_some_iff.mp es).1
        have h6 := h5.put hi fun w ew => by
          have := h5.pin i w ew
          rw [ec] at this
          exact Option.some.inj (Option.some.inj this)
        rw [List.set_set, set_same ec] at h6
        exact q .non F1 _ s1 (fun z => nomatch z) (h6.push (.leaf rfl))
      · exact q.elim
  · exact h2.elim

/-! ### isinstance -/
/-- the built-in type of plain data -/
def tyD : D → String
  | .leaf .non => "NoneType"
  | .leaf (.bl _) => "bool"
  | .leaf (.int _) => "int"
  | .leaf (.str _) => "str"
  | .node _ .lst _ => "list"
  | .node _ .tup _ => "tuple"
  | .node _ _ _ => "dict"
def noIns : D → Bool
  | .node _ (.ins _ _) _ => false
  | .node _ (.dit _) _ => false
  | _ => true
theorem ty_lk {K : PySem.W.Frag} {F H : Hp} {d : D} {v : V} (l : Lk K T F H d v) (s : Same F H) (h : noIns d = true) : TyX K H v (.type (tyD d)) := by
  cases d with
  | leaf sc =>
    have z := lk_leaf l
    cases sc with
    | non => cases z; exact .base .non
    | bl b => cases z; exact .base (.bl b)
    | int b => cases z; exact .base (.int b)
    | str b => cases z; exact .base (.str b)
  | node o k ds =>
    obtain ⟨a, vs, rfl, hn, hl⟩ := l.node s
    cases k with
    | lst =>
      rcases hn.2 with (z | ⟨ob, z⟩) | ⟨ob, its, n, z, z2, _⟩
      · exact .base (.lst z)
      · exact .base (.frz z)
      · exact .kList z z2
    | tup =>
      exact .base (.tup hn.2)
    | dic ks =>
      rcases hn.2 with z | ⟨ob, z⟩
      · exact .base (.dK z)
      · exact .fDict z
    | dit ks =>
      cases h
    | ins c fs => cases h
/-- the test of a type: f tells it for each of the seven -/
def Isi (K : PySem.W.Frag) (u : Value) (f : String → Bool) : Prop := ∀ t, t ∈ ["NoneType", "bool", "int", "str", "list", "tuple", "dict"] → PySem.W.kitOne K (.type t) u = some (f t)
theorem tyD_mem (d : D) : tyD d ∈ ["NoneType", "bool", "int", "str", "list", "tuple", "dict"] := by
  unfold tyD
  split <;> simp
def isiB (b t : String) : Bool := (kitB t b).getD false
theorem isi_ty {K : PySem.W.Frag} {b : String} (h : (["NoneType", "bool", "int", "str", "list", "tuple", "dict"].all fun t => (kitB t b).isSome) = true) : Isi K (.type b) (isiB b) := fun t ht => by
  have := List.all_eq_true.mp h t ht
  obtain ⟨r, e⟩ := Option.isSome_iff_exists.mp this
  unfold isiB
  rw [e]
  exact kit_ty e
def mIsi (f : String → Bool) (a : M D) : M D := M.bind a fun d => M.bind (M.ck (noIns d)) fun _ => M.ret (.bl (f (tyD d)))
theorem qe_isi {a c : Expr} {p0 : Pos} {ma : M D} {cv : V} {u : Value} {f : String → Bool} (ha : QB T io X W p a ma) (hc : PE X c (tC cv)) (k : ClsV cv u) (hi : Isi X.K u f) (hg : Gl X "isinstance") (hm : X.mg "isinstance" = none)
    (hs1 : starEach [a, c] X.env = (false, eval a X.env) :: starEach [c] X.env := by rfl) (hs2 : starEach [c] X.env = [(false, eval c X.env)] := by rfl) : QE T io X W p (.Call (.Name "isinstance" p0) [a, c] [] pos) (mIsi f ma) :=
  fun G g => PE.imp (pe_callB call_isi hg hm (by decide +kernel) (pa_cons (ha G g) (pa_cons hc pa_nil hs2) hs1) (he := hs1) (hpl := by rw [hs2]; rfl)) fun σ H Q ⟨F, r, t, tv, h1, h2⟩ => by
    refine ⟨F, r, t, tv, h1, (sat_bind h2).mono (fun d r1 q v F1 H1 s1 s2 h3 lk => ?_) fun _ _ q => q⟩
    obtain ⟨hn, q⟩ := sat_ck (sat_bind q)
    exact ⟨v, cv, .type (tyD d), u, f (tyD d), rfl, k, ty_lk lk h3.sub hn, hi _ (tyD_mem d), q (.bl _) F1 H1 s1 s2 (h3.push (.leaf rfl))⟩
end
end VL

/-! VL10: sources of loops, calls that leave the caller's data, except .. as, chains. -/
namespace VL
open PySem PySem.Spec L2

section
variable {T : String → Option Addr} {io : Io} {X : Cx} {W : WX} {p p1 p2 : Bool} {pos : Pos}

/-! ### sources -/
/-- what is walked: the items, frozen -/
def tI (K : PySem.W.Frag) (T : String → Option Addr) (G : Gm) (W : WX) (p : Bool) (m : M (List D)) : TI := fun σ H R => ∃ F r t tv, Rl K T G F r t σ tv H ∧
  (m r).sat (fun ds r' => ∀ F' H' J Pv, Same F F' → (p = true → Same H H') → Rl K T G F' r' t σ tv H' → Walks K T J F' ds Pv → (∀ F2 H2, Same F' F2 → Same F2 H2 → Pv H2) → R J H') (exP K T G W σ t tv F)
theorem PI.imp {X : Cx} {tg e : Expr} {t t' : TI} (h : PI X tg e t) (i : ∀ σ H R, t' σ H R → t σ H R) : PI X tg e t' := ⟨fun pins s σ H R I q => h.run pins s σ H R I (i σ H R q)⟩
def QI (T : String → Option Addr) (io : Io) (X : Cx) (W : WX) (p : Bool) (tg e : Expr) (m : M (List D)) : Prop := ∀ G, Pins io G → PI X tg e (tI X.K T G W p m)
def seq? : D → Option (List D)
  | .node _ .lst ds => some ds
  | .node _ .tup ds => some ds
  | _ => none
def iSeq (a : M D) : M (List D) := M.bind a fun d => M.bind (M.opt (seq? d)) fun ds => M.ret (D.frzL ds)
/-- a list or a tuple -/
def iLT (K : PySem.W.Frag) (tl : TE) : TI := fun σ H R => tl σ H fun x H1 => ∃ a, x = .ref a ∧ ((∃ xs, SqL K H1 a xs) ∧ R (Itl K a) H1 ∨ (∃ xs, SqT K H1 a xs) ∧ R (Itt K a) H1)
theorem pi_lt {tg l : Expr} {tl : TE} (hl : PE X l tl) : PI X tg l (iLT X.K tl) := by
  refine ⟨fun pins s σ H R I h => ?_⟩
  refine thn (hl.run pins s σ H _ I h) fun v s1 ⟨x, H1, I1, r1, q1⟩ => ?_
  obtain ⟨a, e, ⟨⟨xs, hq⟩, q⟩ | ⟨⟨xs, hq⟩, q⟩⟩ := q1
  · subst e
    cases r1
    obtain ⟨its, rv, p, hz⟩ := I1.list hq
    refine wpAny_pyIter_list p.isList ?_
    refine ⟨s1.heap.objs.size, [s1.heap.objs.size], _, _, H1, rfl, I1.kept (t' := s1.toks) fun b o e => Heap.get?_push_of_some _ e, turn_list a _, ⟨_, Heap.get?_push_size _ rfl, rfl, rfl⟩, fun b hb => ?_, q⟩
    have e : b = s1.heap.objs.size := by simpa using hb
    subst e
    exact I1.fpOk (Nat.le_refl _) (I1.hok.fresh (Nat.le_refl _))
  · subst e
    cases r1
    obtain ⟨its, rv, p, hz⟩ := I1.tuple hq
    refine wpAny_pyIter_tuple (show s1.heap.IsTuple a its.toArray from p) ?_
    refine ⟨s1.heap.objs.size, [s1.heap.objs.size], _, _, H1, rfl, I1.kept (t' := s1.toks) fun b o e => Heap.get?_push_of_some _ e, turn_tuple a _, ⟨_, Heap.get?_push_size _ rfl, rfl, rfl⟩, fun b hb => ?_, q⟩
    have e : b = s1.heap.objs.size := by simpa using hb
    subst e
    exact I1.fpOk (Nat.le_refl _) (I1.hok.fresh (Nat.le_refl _))
theorem qi_seq {tg e : Expr} {a : M D} (h : QE T io X W p e a) : QI T io X W p tg e (iSeq a) := fun G g => PI.imp (pi_lt (h G g)) fun σ H R ⟨F, r, t, tv, h1, h2⟩ => by
  refine ⟨F, r, t, tv, h1, (sat_bind h2).mono (fun d r1 q v F1 H1 s1 z1 h3 => ?_) fun _ _ q => q⟩
  obtain ⟨ds, e, q⟩ := sat_opt (sat_bind q)
  unfold seq? at e
  split at e
  · cases e
    obtain ⟨F2, s2, h4, fz⟩ := h3.freeze
    cases fz with
    | @node a k vs _ hn hl =>
      have hq : SqL X.K F2 a vs := hn.2
      exact ⟨a, rfl, .inl ⟨⟨vs, h4.sub.seq hq⟩, q F2 H1 _ _ (s1.trans s2) z1 h4.drop (walks_list' hl) fun F' H' s3 s4 => s4.seq (s3.seq hq)⟩⟩
  · cases e
    obtain ⟨F2, s2, h4, fz⟩ := h3.freeze
    cases fz with
    | @node a k vs _ hn hl =>
      have hq : SqT X.K F2 a vs := hn.sqT
      exact ⟨a, rfl, .inr ⟨⟨vs, SqT.mono h4.sub hq⟩, q F2 H1 _ _ (s1.trans s2) z1 h4.drop (walks_tup hl) fun F' H' s3 s4 => SqT.mono s4 (SqT.mono s3 hq)⟩⟩
  · cases e
def iRg1 (a : M D) : M (List D) := M.bind a fun d => M.bind (M.opt (int? d)) fun j => M.bind (M.ck (bnd j)) fun _ => M.ret (rangeL 0 j.toNat)
def iRg2 (a b : M D) : M (List D) := M.bind a fun d => M.bind b fun e => M.bind (M.opt (int? d)) fun i => M.bind (M.opt (int? e)) fun j => M.bind (M.ck (bnd i && bnd j)) fun _ => M.ret (rangeL i (j - i).toNat)
theorem qi_range1 {tg a : Expr} {ma : M D} {p0 : Pos} (ha : QB T io X W p a ma) (hg : Gl X "range") (hm : X.mg "range" = none) (hst : starEach [a] X.env = [(false, eval a X.env)] := by rfl) : QI T io X W p tg (.Call (.Name "range" p0) [a] [] pos) (iRg1 ma) :=
  fun G g => PI.imp (pi_range1 hg hm (pa_cons (ha G g) pa_nil hst) hst) fun σ H R ⟨F, r, t, tv, h1, h2⟩ => by
    refine ⟨F, r, t, tv, h1, (sat_bind h2).mono (fun d r1 q v F1 H1 s1 z1 h3 lk => ?_) fun _ _ q => q⟩
    obtain ⟨j, e, q⟩ := sat_opt (sat_bind q)
    obtain ⟨bj, q⟩ := sat_ck (sat_bind q)
    obtain ⟨b1, b2⟩ := bnd_of bj
    exact ⟨j, by rw [lk_int lk e], b1, b2, q F1 H1 _ _ s1 z1 h3 (walks_range 0 j.toNat) fun _ _ _ _ => trivial⟩
def mFor (src : M (List D)) (g : Gt) (b : M Fl) : M Fl := M.bind src (mForL g b)
theorem qs_for {tg src : Expr} {body : List Stmt} {ms : M (List D)} {g : Gt} {sl : List Nat} {pg : Bool} {mb : M Fl} (hp : PassesOwn (model X.prog X.w) X.A X.env X.xe) (hc : X.calm = true) (hsrc : QI T io X W p tg src ms) (hgt : QG T io X sl pg tg g) (hb : QSs T io X W body mb)
    (hs : ∀ x, foldedSetIterable src X.env x = pure x := by intro _; rfl) : QS T io X W (.For tg src body [] pos) (mFor ms g mb) :=
  fun G gg => PS.imp (ps_for hp hc (hsrc G gg) (hgt G gg) (hb G gg) hs) fun B σ H ⟨F, r, t, tv, h1, h2⟩ =>
    ⟨F, r, t, tv, h1, (sat_bind h2).mono (fun ds r1 q F1 H1 J Pv s1 _ h3 w hv => for_walks (tg := tg) (gt := tG X.K T G sl pg g) (tb := tS X.K T G W mb) (body := body) w hv h3 (q.mono (fun _ _ q => q.trans s1) fun _ _ q => q.trans s1)) fun _ _ q => q.toP⟩

/-! ### comprehensions over a source -/
def lcRun (own : List Nat) (g : Gt) (c : M Bool) (el : M D) (ds : List D) : M D := fun r => match lcL own g c el ds [] r with
  | .ok ys r' => .ok (.lst true ys) (unhide own r r')
  | _ => .no
theorem lcRun_calm {own : List Nat} {g : Gt} {c : M Bool} {el : M D} {ds : List D} {r : VS} {ok : D → VS → Prop} {ex : String → VS → Prop} (h : (lcRun own g c el ds r).sat ok ex) : (lcRun own g c el ds r).sat ok fun _ _ => False := by
  unfold lcRun at h ⊢
  cases e2 : lcL own g c el ds [] r with
  | no => rw [e2] at h; exact h.elim
  | ex _ _ => rw [e2] at h; exact h.elim
  | ok ys r2 => rw [e2] at h; exact h
def mComp (own : List Nat) (src : M (List D)) (g : Gt) (c : M Bool) (el : M D) : M D := M.bind src (lcRun own g c el)
theorem lc_te {own : List Nat} {src : M (List D)} {g : Gt} {c : M Bool} {el : M D} {sl : List Nat} {pg : Bool} {G : Gm} (gp : Pins io G) (hsl : ∀ j ∈ sl, j ∈ own) (hio : ∀ j ∈ io.l, j ∉ own) {σ : L2.St} {H : Hp} {Q : VK}
    (h : tE X.K T G W (p && (pg && (p1 && p2))) (mComp own src g c el) σ H Q) : tLc (tI X.K T G W p src) (tG X.K T G sl pg g) (tT X.K T G W0 p1 c) (tE X.K T G W0 p2 el) own σ H Q := by
  obtain ⟨F, r, t, tv, h1, h2⟩ := h
  refine ⟨F, r, t, tv, h1, (sat_bind h2).mono (fun ds r1 q F1 H1 J Pv s1 z1 h3 w hv => ?_) fun _ _ q => q⟩
  have q2 := lcRun_calm q
  exact lc_imp w hv hsl (fun i v e => hio i (gp.1 i v e)) h3 (q2.mono (fun d r' q v F' H' s3 z3 h5 => q v F' H' (s1.trans s3) (fun z => (z1 (andL z)).trans (z3 (andR z))) h5) fun _ _ q => q)
theorem qe_comp {elt tg src : Expr} {ifs : List Expr} {scope : Scope} {own : List (Str × Nat)} {ms : M (List D)} {el : M D} {g : Gt} {sl : List Nat} {pg : Bool} {c : M Bool} (hc : X.calm = true) (hN : X.N.Nodup) (ok : BlkOk X.N X.env.scope scope own) (hsrc : QI T io X W p tg src ms)
    (hg : ∀ (s : Shared) (H : Hp) (C : Addr) (cl : List (Str × Addr)) (fp : List Addr), QG T io (X.blk s H scope (compEnvC scope cl C X.env) fp) sl pg tg g) (ht : ∀ (s : Shared) (H : Hp) (C : Addr) (cl : List (Str × Addr)) (fp : List Addr), QTs T io (X.blk s H scope (compEnvC scope cl C X.env) fp) W0 p1 ifs c)
    (he : ∀ (s : Shared) (H : Hp) (C : Addr) (cl : List (Str × Addr)) (fp : List Addr), QE T io (X.blk s H scope (compEnvC scope cl C X.env) fp) W0 p2 elt el) (hsl : ∀ j ∈ sl, j ∈ own.map (·.2)) (hio : ∀ j ∈ io.l, j ∉ own.map (·.2)) (hs : ∀ x, foldedSetIterable src X.env x = pure x := by intro _; rfl) :
    QE T io X W (p && (pg && (p1 && p2))) (.ListComp elt [⟨tg, src, ifs, 0⟩] scope pos) (mComp (own.map (·.2)) ms g c el) := fun G gp =>
  PE.imp (pe_lc hc hN (hsrc G gp) ok (fun s H C cl fp => hg s H C cl fp G gp) (fun s H C cl fp => ht s H C cl fp G gp) (fun s H C cl fp => he s H C cl fp G gp) hs) fun σ H Q h => lc_te gp hsl hio h
/-! ### calls that leave the caller's data -/
theorem FzL.owl {K : PySem.W.Frag} {F H : Hp} {P : Ft} (hP : ∀ a, ¬ P a) : ∀ {ds : List D} {vs : List V}, FzL K T F ds vs → OwL K T F H ds vs P
  | [], _, h => by cases h; exact .nil hP
  | d :: ds, _, h => by
    cases h with
    | @cons _ v _ vs h1 h2 =>
      have o : ∃ A, Ow K T F H d v A ∧ ∀ a, ¬ A a := by
        cases h1 with
        | leaf z => exact ⟨fun _ => False, .leaf z fun _ q => q, fun _ q => q⟩
        | node z1 z2 => exact ⟨fun _ => False, .fz (.node z1 z2) fun _ q => q, fun _ q => q⟩
      obtain ⟨A, o, hA⟩ := o
      exact .cons o (FzL.owl (P := fun _ => False) (fun _ q => q) h2) (fun a q _ => hA a q) fun a => ⟨fun q => (hP a q).elim, fun q => q.elim (fun q => (hA a q).elim) False.elim⟩

theorem Rl.freezeN {K : PySem.W.Frag} {G : Gm} {H : Hp} {r : VS} {t : List D} {σ : L2.St} {tv : List V} : ∀ {ds : List D} {vs : List V} {F : Hp}, ds.length = vs.length → Rl K T G F r (ds ++ t) σ (vs ++ tv) H → ∃ F', Same F F' ∧ Rl K T G F' r t σ tv H ∧ FzL K T F' (D.frzL ds) vs
  | [], [], F, _, h => ⟨F, Same.refl _, h, .nil⟩
  | [], _ :: _, _, hl, _ => by simp at hl
  | _ :: _, [], _, hl, _ => by simp at hl
  | d :: ds, v :: vs, F, hl, h => by
    obtain ⟨F1, s1, h1, f1⟩ := Rl.freeze (t := ds ++ t) (tv := vs ++ tv) h
    obtain ⟨F2, s2, h2, f2⟩ := Rl.freezeN (ds := ds) (vs := vs) (by simpa using hl) h1.drop
    exact ⟨F2, s1.trans s2, h2, .cons (f1.mono s2) f2⟩
/-- f(..): the arguments frozen -/
def runF (fn : Fn) (ds : List D) : M D := fun r => match fn ds with
  | .ok d [] => .ok d r
  | .ex c [] => .ex c r
  | _ => .no
def mCallF (np : Nat) (fn : Fn) (args : M (List D)) : M D := M.bind args fun ds => M.bind (M.ck (decide (ds.length = np))) fun _ => runF fn (D.frzL ds)
theorem frzL_length (ds : List D) : (D.frzL ds).length = ds.length := by rw [frzL_map, List.length_map]
theorem callF_imp {K : PySem.W.Frag} {G : Gm} {F H : Hp} {r : VS} {t : List D} {σ : L2.St} {tv : List V} {ds : List D} {vs : List V} {fn : Fn} {np : Nat} {Q : VK}
    (hf : FzL K T F ds vs) (hn : ds.length = np) (h : Rl K T G F r t σ tv H)
    (q : (runF fn ds r).sat (fun d r' => ∀ v F' H', Same F F' → Same H H' → Rl K T G F' r' (d :: t) σ (v :: tv) H' → Q v H') (exP K T G W σ t tv F)) : spV K T np [] fn vs H Q (WE W σ) := by
  obtain ⟨A, g1, after⟩ := Rl.split (ds := []) (vs := []) rfl h
  have hA : ∀ a, ¬ A a := by cases g1 with | nil e => exact e
  refine ⟨F, ds, A, hf.owl hA, h.sub, hn, ?_⟩
  have nov : ∀ {vo : List V}, vo.map some = ([] : List Nat).map (fun i => vs[i]?) → vo = [] := fun {vo} e => by cases vo with | nil => rfl | cons _ _ => cases e
  unfold runF at q
  cases e : fn ds with
  | no => rw [e] at q; exact q
  | ok d os =>
    rw [e] at q
    cases os with
    | cons _ _ => exact q.elim
    | nil =>
      intro v F' H' vo P' w1 w2 w3
      cases nov w3
      exact q v F' H' w2.fr (fun a o e => w2.keep a o e (hA a)) (after F' H' _ _ P' w1 w2)
  | ex c os =>
    rw [e] at q
    cases os with
    | cons _ _ => exact q.elim
    | nil =>
      intro C F' H' vo P' hT w1 w2 w3
      cases nov w3
      exact q C F' H' hT w2.fr (after F' H' _ _ P' w1 w2)
theorem qe_callF {e : Expr} {es : List Expr} {x : Str} {pp : Pos} {k : Nat} {f : Addr} {fd : FuncData} {ps : List Str} {np : Nat} {fn : Fn} {a : M (List D)}
    (F : FnOk X.prog X.w X.K X.mg X.base (L2.CX X.prog X.w) k f fd ps (spV X.K T np [] fn)) (hr : Room k X.A) (hg : Gl X x) (hm : X.mg x = some (.ref f)) (hk : PySem.W.keepIn X.K (.ref f) = true) (hb : Binds X.K fd ps []) (tk : Takes X W)
    (ha : QA T io X W p (e :: es) a) (hdb : (x == ("__debug__" : Str)) = false := by decide) (he : starEach (e :: es) X.env = (false, eval e X.env) :: starEach es X.env := by rfl) (hpl : (backTo pos (starEach es X.env)).any (·.1) = false := by rfl) :
    QE T io X W p (.Call (.Name x pp) (e :: es) [] pos) (mCallF np fn a) := fun G g => PE.imp (pe_callS F hr hg hm hk hb (fun σ => passAt tk σ) (ha G g) hdb he hpl) fun σ H Q ⟨F0, r, t, tv, h1, h2⟩ => by
  refine ⟨F0, r, t, tv, h1, (sat_bind h2).mono (fun ds r1 q vs F1 H1 s1 z1 hl h3 => ?_) fun _ _ q => q⟩
  obtain ⟨hn, q⟩ := sat_ck (sat_bind q)
  obtain ⟨F2, s2, h4, hf⟩ := Rl.freezeN hl h3
  exact callF_imp hf ((frzL_length ds).trans (of_decide_eq_true hn)) h4 (q.mono (fun d r' q v F' H' s3 z3 h5 => q v F' H' ((s1.trans s2).trans s3) (fun z => (z1 z).trans z3) h5) fun _ _ q => q.trans (s1.trans s2))
/-- f(..): the arguments looked at; the answer is a plain value -/
def runB (fn : Fn) (ds : List D) : M D := fun r => match fn ds with
  | .ok (.leaf d) [] => .ok (.leaf d) r
  | .ex c [] => .ex c r
  | _ => .no
def mCallB (np : Nat) (fn : Fn) (args : M (List D)) : M D := M.bind args fun ds => M.bind (M.ck (decide (ds.length = np))) fun _ => runB fn (D.frzL ds)
theorem callB_imp {K : PySem.W.Frag} {G : Gm} {F H : Hp} {r : VS} {t : List D} {σ : L2.St} {tv : List V} {ds : List D} {vs : List V} {fn : Fn} {np : Nat} {Q : VK}
    (hf : LkL K T F H ds vs) (hn : ds.length = np) (h : Rl K T G F r t σ tv H)
    (q : (runB fn (D.frzL ds) r).sat (fun d r' => ∀ v H', Same H H' → Rl K T G F r' (d :: t) σ (v :: tv) H' → Q v H') (exP K T G W σ t tv F)) : spV K T np [] fn vs H Q (WE W σ) := by
  refine ⟨H, D.frzL ds, fun _ => False, (hf.seen h.sub).owl fun _ q => q, Same.refl _, (frzL_length ds).trans hn, ?_⟩
  have nov : ∀ {vo : List V}, vo.map some = ([] : List Nat).map (fun i => vs[i]?) → vo = [] := fun {vo} e => by cases vo with | nil => rfl | cons _ _ => cases e
  unfold runB at q
  cases e : fn (D.frzL ds) with
  | no => rw [e] at q; exact q
  | ok d os =>
    rw [e] at q
    cases os with
    | cons _ _ => cases d <;> exact q.elim
    | nil =>
      cases d with
      | node _ _ _ => exact q.elim
      | leaf sc =>
        intro v F' H' vo P' w1 w2 w3
        cases nov w3
        have z : ScV sc v := by
          cases w1 with
          | cons o _ _ _ => cases o with | leaf z _ => exact z
        have s : Same H H' := fun a o e => w2.keep a o e fun q => q
        exact q v H' s ((h.grow s).push (.leaf z))
  | ex c os =>
    rw [e] at q
    cases os with
    | cons _ _ => exact q.elim
    | nil =>
      intro C F' H' vo P' hT w1 w2 w3
      have s : Same H H' := fun a o e => w2.keep a o e fun q => q
      exact q C F H' hT (Same.refl _) (h.grow s)
theorem qe_callL {e : Expr} {es : List Expr} {x : Str} {pp : Pos} {k : Nat} {f : Addr} {fd : FuncData} {ps : List Str} {np : Nat} {fn : Fn} {a : M (List D)}
    (F : FnOk X.prog X.w X.K X.mg X.base (L2.CX X.prog X.w) k f fd ps (spV X.K T np [] fn)) (hr : Room k X.A) (hg : Gl X x) (hm : X.mg x = some (.ref f)) (hk : PySem.W.keepIn X.K (.ref f) = true) (hb : Binds X.K fd ps []) (tk : Takes X W)
    (ha : QAB T io X W p (e :: es) a) (hdb : (x == ("__debug__" : Str)) = false := by decide) (he : starEach (e :: es) X.env = (false, eval e X.env) :: starEach es X.env := by rfl) (hpl : (backTo pos (starEach es X.env)).any (·.1) = false := by rfl) :
    QE T io X W p (.Call (.Name x pp) (e :: es) [] pos) (mCallB np fn a) := fun G g => PE.imp (pe_callS F hr hg hm hk hb (fun σ => passAt tk σ) (ha G g) hdb he hpl) fun σ H Q ⟨F0, r, t, tv, h1, h2⟩ => by
  refine ⟨F0, r, t, tv, h1, (sat_bind h2).mono (fun ds r1 q vs F1 H1 s1 z1 h3 lk => ?_) fun _ _ q => q⟩
  obtain ⟨hn, q⟩ := sat_ck (sat_bind q)
  exact callB_imp lk (of_decide_eq_true hn) h3 (q.mono (fun d r' q v H' z3 h5 => q v F1 H' s1 (fun z => (z1 z).trans z3) h5) fun _ _ q => q.trans s1)

/-! ### a op b op c -/
end
end VL

/-! VL11: writes into a node, except .. as, copies. -/
namespace VL
open PySem PySem.Spec L2

section
variable {K : PySem.W.Frag} {T : String → Option Addr} {G : Gm} {F H : Hp} {r : VS} {t : List D} {σ : L2.St} {tv : List V}
/-- the second list's data are some of the first one's -/
def Sel (K : PySem.W.Frag) (T : String → Option Addr) (ds : List D) (vs : List V) (ds' : List D) (vs' : List V) : Prop := ∀ (F H : Hp) (P : Ft), OwL K T F H ds vs P → ∃ P', OwL K T F H ds' vs' P' ∧ ∀ a, P' a → P a
def Kn.like : Kn → Kn → Prop
  | .ins c _, .ins c' _ => c = c'
  | .ins _ _, _ => False
  | _, .ins _ _ => False
  | _, _ => True
theorem insOk_like {C : Addr} {H H' : Hp} {a dx : Addr} {k k' : Kn} (hl : k.like k') (h : k.insOk T C H a dx) (hd : H' dx = H dx ∨ dx = a) : k'.insOk T C H' a dx := by
  cases k <;> cases k' <;> first
    | exact hl.elim
    | exact h
    | (obtain ⟨h1, h2, h3⟩ := h
       have hl : _ = _ := hl
       subst hl
       rcases hd with z | z
       · exact ⟨h1, z.trans h2, h3⟩
       · exact (h3 z).elim)
theorem Rl.remake {ext : List D} {evs : List V} {k : Kn} {ds : List D} {a : Addr} (hl : ext.length = evs.length) (h : Rl K T G F r (ext ++ .node true k ds :: t) σ (evs ++ .ref a :: tv) H) :
    ∃ vs C dx, k.fits vs.length ∧ H a = some (objOf C dx k vs) ∧ k.insOk T C H a dx ∧ ds.length = vs.length ∧ ∀ (k' : Kn) (ds' : List D) (vs' : List V), k.like k' → k'.fitsW vs'.length → Sel K T (ext ++ ds) (evs ++ vs) ds' vs' →
      Rl K T G F r (.node true k' ds' :: t) σ (.ref a :: tv) (upd H a (objOf C dx k' vs')) := by
  obtain ⟨⟨Ps, Pt, h1, h2, dj, hq⟩, b1, b2, b3, b4, b5, b6⟩ := h
  obtain ⟨A, B, g1, g2, dj1, un⟩ := OwL.cut hl h2
  cases g2 with
  | @cons _ _ _ _ _ A2 B2 ol g2 dj3 un2 =>
    cases ol with
    | @own _ dx k vs ds _ P0 hn hl2 n1 n2 f1 f2 hp =>
      obtain ⟨z1, C, e1, e2⟩ := hn
      refine ⟨vs, C, dx, z1.1, e1, e2, hl2.length, fun k' ds' vs' lk ft sel => ?_⟩
      have pa : A2 a := (hp a).mpr (.inl (.inl rfl))
      have pdx : A2 dx := (hp dx).mpr (.inl (.inr rfl))
      have dA : ∀ b, A b → ¬ A2 b := fun b z w => dj1 b z ((un2 b).mpr (.inl w))
      obtain ⟨P', q1, q2⟩ := sel F H (fun b => A b ∨ P0 b) (OwL.join g1 hl2 (fun b z w => dA b z ((hp b).mpr (.inr w))) fun _ => Iff.rfl)
      have in2 : ∀ b, (((b = a ∨ b = dx) ∨ P' b) ∨ B2 b) → Pt b := fun b z => by
        rcases z with (z | z) | z
        · refine (un b).mpr (.inr ((un2 b).mpr (.inl ?_)))
          rcases z with rfl | rfl
          · exact pa
          · exact pdx
        · rcases q2 b z with w | w
          · exact (un b).mpr (.inl w)
          · exact (un b).mpr (.inr ((un2 b).mpr (.inl ((hp b).mpr (.inr w)))))
        · exact (un b).mpr (.inr ((un2 b).mpr (.inr z)))
      have keep : ∀ {Q : Ft}, (∀ b, Q b → ¬ A2 b) → ∀ b, Q b → upd H a (objOf C dx k' vs') b = H b := fun hQ b z => upd_ne fun e => hQ b z (by rw [e]; exact pa)
      have dS : ∀ b, Ps b → ¬ A2 b := fun b z w => dj b z ((un b).mpr (.inr ((un2 b).mpr (.inl w))))
      have dB : ∀ b, B2 b → ¬ A2 b := fun b z w => dj3 b w z
      have nP : ∀ b, P' b → b ≠ a ∧ b ≠ dx := fun b z => by
        rcases q2 b z with w | w
        · exact ⟨fun e => dA b w (by rw [e]; exact pa), fun e => dA b w (by rw [e]; exact pdx)⟩
        · exact ⟨fun e => n1 (by rw [← e]; exact w), fun e => n2 (by rw [← e]; exact w)⟩
      refine ⟨⟨Ps, fun b => ((b = a ∨ b = dx) ∨ P' b) ∨ B2 b, h1.frame (Same.refl _) (keep dS) fun b z => (h1.at z).1, ?_, fun b z w => dj b z (in2 b w), fun b z => hq b (z.imp id (in2 b))⟩, ?_, ?_, b3, b4, b5, tabs_upd b6 e1 plain_objOf⟩
      · refine .cons (P1 := fun b => (b = a ∨ b = dx) ∨ P' b) (P2 := B2) (.own (dx := dx) (vs := vs') (P0 := P') ⟨⟨ft.fits, ft.noKey⟩, C, upd_same, insOk_like lk e2 ?_⟩ (q1.frame (Same.refl _) (fun b z => upd_ne (nP b z).1) fun b z => (q1.at z).1) (fun z => (nP a z).1 rfl) (fun z => (nP dx z).2 rfl) f1 f2 fun _ => Iff.rfl) (g2.frame (Same.refl _) (keep dB) fun b z => (g2.at z).1) (fun b z w => ?_) fun _ => Iff.rfl
        · by_cases e : dx = a
          · exact .inr e
          · exact .inl (upd_ne e)
        · rcases z with (rfl | rfl) | z
          · exact dB _ w pa
          · exact dB _ w pdx
          · rcases q2 b z with y | y
            · exact dj1 b y ((un2 b).mpr (.inr w))
            · exact dB b w ((hp b).mpr (.inr y))
      · exact fun b o e => by
          rw [upd_ne (fun z => by rw [z, f1] at e; cases e)]
          exact b1 b o e
      · intro b o e n
        have : b ≠ a := fun z => by
          rcases hq a (.inr (in2 a (.inl (.inl (.inl rfl))))) with w | w
          · exact n (by rw [z]; exact w)
          · rw [z, w] at e; cases e
        rw [upd_ne this]
        exact b2 b o e n

/-! selections -/
theorem Sel.refl {ds : List D} {vs : List V} : Sel K T ds vs ds vs := fun _ _ P h => ⟨P, h, fun _ z => z⟩
theorem Sel.trans {d1 d2 d3 : List D} {v1 v2 v3 : List V} (a : Sel K T d1 v1 d2 v2) (b : Sel K T d2 v2 d3 v3) : Sel K T d1 v1 d3 v3 := fun F H P h => by
  obtain ⟨P1, h1, s1⟩ := a F H P h
  obtain ⟨P2, h2, s2⟩ := b F H P1 h1
  exact ⟨P2, h2, fun x z => s1 x (s2 x z)⟩
theorem Sel.tail {d : D} {v : V} {ds : List D} {vs : List V} : Sel K T (d :: ds) (v :: vs) ds vs := fun F H P h => by
  cases h with
  | cons o h dj un => exact ⟨_, h, fun a z => (un a).mpr (.inr z)⟩
theorem Sel.swap {d e : D} {v u : V} {ds : List D} {vs : List V} : Sel K T (d :: e :: ds) (v :: u :: vs) (e :: d :: ds) (u :: v :: vs) := fun F H P h => ⟨P, OwL.lift (ds := [d]) (vs := [v]) rfl h, fun _ z => z⟩
theorem Sel.cons {d : D} {v : V} {ds ds' : List D} {vs vs' : List V} (a : Sel K T ds vs ds' vs') : Sel K T (d :: ds) (v :: vs) (d :: ds') (v :: vs') := fun F H P h => by
  cases h with
  | @cons _ _ _ _ _ A B o h dj un =>
    obtain ⟨P1, h1, s1⟩ := a F H _ h
    exact ⟨fun a => A a ∨ P1 a, .cons o h1 (fun x z w => dj x z (s1 x w)) fun _ => Iff.rfl, fun x z => (un x).mpr (z.imp id (s1 x))⟩
/-- the first one to the end -/
theorem Sel.last {d : D} {v : V} : ∀ {ds : List D} {vs : List V}, ds.length = vs.length → Sel K T (d :: ds) (v :: vs) (ds ++ [d]) (vs ++ [v])
  | [], [], _ => .refl
  | [], _ :: _, h => by simp at h
  | _ :: _, [], h => by simp at h
  | e :: ds, u :: vs, h => Sel.trans .swap (.cons (Sel.last (by simpa using h)))
/-- the first one at place n -/
theorem Sel.set {d : D} {v : V} : ∀ {ds : List D} {vs : List V} (n : Nat), ds.length = vs.length → Sel K T (d :: ds) (v :: vs) (ds.set n d) (vs.set n v)
  | [], [], _, _ => .tail
  | [], _ :: _, _, h => by simp at h
  | _ :: _, [], _, h => by simp at h
  | e :: ds, u :: vs, 0, h => Sel.trans .swap (by simpa using Sel.tail)
  | e :: ds, u :: vs, n + 1, h => Sel.trans .swap (by simpa using .cons (Sel.set n (by simpa using h)))
theorem Sel.sink {d : D} {v : V} {t : List D} {tv : List V} : ∀ {ds : List D} {vs : List V}, ds.length = vs.length → Sel K T (d :: (ds ++ t)) (v :: (vs ++ tv)) (ds ++ d :: t) (vs ++ v :: tv)
  | [], [], _ => .refl
  | [], _ :: _, h => by simp at h
  | _ :: _, [], h => by simp at h
  | e :: ds, u :: vs, h => Sel.trans .swap (.cons (Sel.sink (by simpa using h)))
theorem Rl.sel {t' : List D} {tv' : List V} (s : Sel K T t tv t' tv') (h : Rl K T G F r t σ tv H) : Rl K T G F r t' σ tv' H := by
  obtain ⟨⟨Ps, Pt, h1, h2, dj, hq⟩, b1, b2, b3, b4, b5, b6⟩ := h
  obtain ⟨P', q1, q2⟩ := s F H Pt h2
  exact ⟨⟨Ps, P', h1, q1, fun a z w => dj a z (q2 a w), fun a z => hq a (z.imp id (q2 a))⟩, b1, b2, b3, b4, b5, b6⟩
/-- the node in a slot is written -/
theorem Rl.mutSlot {ext : List D} {evs : List V} {i : Nat} {k : Kn} {ds : List D} (hl : ext.length = evs.length) (h : Rl K T G F r (ext ++ t) σ (evs ++ tv) H) (e : slot? i r = some (.node true k ds)) :
    ∃ a vs C dx, σ[i]? = some (some (.ref a)) ∧ k.fits vs.length ∧ H a = some (objOf C dx k vs) ∧ k.insOk T C H a dx ∧ ds.length = vs.length ∧ ∀ (k' : Kn) (ds' : List D) (vs' : List V), k.like k' → k'.fitsW vs'.length → Sel K T (ext ++ ds) (evs ++ vs) ds' vs' →
      Rl K T G F (r.set i (some (.node true k' ds'))) t σ tv (upd H a (objOf C dx k' vs')) := by
  have es := slot?_eq e
  obtain ⟨v, ev, h2⟩ := h.take es
  have h3 := Rl.sel (Sel.sink hl) h2
  obtain ⟨a, vs0, ea, _⟩ := (h2.top).node h2.sub
  subst ea
  obtain ⟨vs, C, dx, z1, z2, z3, z4, z5⟩ := Rl.remake hl h3
  refine ⟨a, vs, C, dx, ev, z1, z2, z3, z4, fun k' ds' vs' l f s => ?_⟩
  have h5 := z5 k' ds' vs' l f s
  have hi : i < (r.set i none).length := by rw [List.length_set]; exact (List.getElem?_eq_some_iff.mp es).1
  have h6 := h5.put hi fun w ew => by
    have := h5.pin i w ew
    rw [ev] at this
    exact Option.some.inj (Option.some.inj this)
  rw [List.set_set, set_same ev] at h6
  exact h6
end

section
variable {T : String → Option Addr} {io : Io} {X : Cx} {W : WX} {p p1 p2 : Bool} {pos : Pos}
/-- x[k] = e, x a list of a slot -/
def setIxR (i : Nat) (d : D) (j : Int) : M Fl := fun r => match ownL? i r with
  | some ds => (match ixN ds.length j with | some n => .ok .nx (r.set i (some (.lst true (ds.set n d)))) | none => .no)
  | none => .no
def mIsL (i : Nat) : M Unit := fun r => if isL i r = true then .ok () r else .no
def mSetIx (i : Nat) (a k : M D) : M Fl := M.bind a fun d => M.bind (mIsL i) fun _ => M.bind k fun kd => M.bind (M.opt (int? kd)) fun j => setIxR i d j
theorem sat_isL {i : Nat} {r : VS} {ok : Unit → VS → Prop} {ex : String → VS → Prop} (h : (mIsL i r).sat ok ex) : isL i r = true ∧ ok () r := by
  unfold mIsL at h
  split at h
  · exact ⟨by assumption, h⟩
  · exact h.elim
theorem qs_setIx {i : Nat} {x : Str} {k e : Expr} {np tpos : Pos} {a mk : M D} (hN : X.N[i]? = some x) (hv : Vis X.env.scope x) (he : QE T io X W p e a) (hk : QB T io X W p2 k mk) (hd : (x == ("__debug__" : Str)) = false := by decide) (hcd : (x == ("__classdict__" : Str)) = false := by decide)
    (ha : ∀ v, assign (.Subscript (.Name x np) k tpos) X.env v = (do
      let ov ← holding [v] (eval (.Name x np) X.env)
      let iv ← holding [v, ov] (eval k X.env)
      standAt tpos
      holding [v, ov, iv] (setItem ov iv v)
      release [v, ov, iv] []) := by intro _; rfl) (hs : swapsWithSole [.Subscript (.Name x np) k tpos] e pos.line X.env = pure false := by rfl) (hw : swappedStores [.Subscript (.Name x np) k tpos] e X.env = pure none := by rfl)
    (h1 : (assignEach [.Subscript (.Name x np) k tpos] X.env).map (·.2) = [assign (.Subscript (.Name x np) k tpos) X.env] := by rfl) : QS T io X W (.Assign [.Subscript (.Name x np) k tpos] e pos) (mSetIx i a mk) := fun G g =>
  PS.imp (ps_asg (he G g) (pg_sub (pe_var hN hv hd hcd) (hk G g) set_list ha) hs hw h1) fun B σ H ⟨F, r, t, tv, h1, h2⟩ => by
    refine ⟨F, r, t, tv, h1, (sat_bind h2).mono (fun d r1 q v F1 H1 s1 z1 h3 => ?_) fun _ _ q => q.toP⟩
    obtain ⟨hL, q⟩ := sat_isL (sat_bind q)
    obtain ⟨c, vs0, ec, hc⟩ := isL_lk h3 hL
    refine ⟨_, ec, F1, r1, d :: t, v :: tv, h3, (sat_bind q).mono (fun kd r2 q kv F2 H2 s2 z2 h4 lk => ?_) fun c r' q => ?_⟩
    · obtain ⟨j, e, q⟩ := sat_opt (sat_bind q)
      unfold setIxR at q
      cases e1 : ownL? i r2 with
      | none => rw [e1] at q; exact q.elim
      | some ds =>
        rw [e1] at q
        dsimp only at q
        cases e2 : ixN ds.length j with
        | none => rw [e2] at q; exact q.elim
        | some n =>
          rw [e2] at q
          obtain ⟨a', vs, C, dx, y1, y2, y3, y4, y5, y6⟩ := Rl.mutSlot (ext := [d]) (evs := [v]) rfl h4 (ownL?_eq e1)
          rw [ec] at y1
          cases y1
          refine ⟨c, vs, j, n, rfl, lk_int lk e, y3, by rw [← y5]; exact e2, ?_⟩
          exact q σ F2 _ (s1.trans s2) (y6 .lst (ds.set n d) (vs.set n v) trivial trivial (Sel.set n y5))
    · exact fun C F2 H2 z s3 h4 => q C σ F2 H2 z (s1.trans s3) h4.drop
/-- x = y, a copy of a list or a tuple of plain items -/
def fListOf : List D → Option D
  | [.node _ .lst ds] => if ds.all D.shr = true then some (.lst true ds) else none
  | [.node _ .tup ds] => if ds.all D.shr = true then some (.lst true ds) else none
  | _ => none
theorem listOf_ok {K : PySem.W.Frag} : OpN K T fListOf (fun xs H Q => ∃ p ys, xs = [.ref p] ∧ (SqL K H p ys ∨ SqT K H p ys) ∧ ∀ l, H l = none → Q (.ref l) (upd H l (.lst ys))) := by
  intro F H ds xs d' Q hf s l q
  unfold fListOf at hf
  split at hf
  · split at hf
    · rename_i hs
      cases hf
      obtain ⟨x, rfl, l1⟩ := lkl1 l
      obtain ⟨a, vs, rfl, hn, hl⟩ := l1.node s
      exact ⟨a, vs, rfl, .inl hn.2, fun c hc => q _ _ (.new (k := .lst) (fun _ _ z => nomatch z) trivial (hl.shr hs) hc)⟩
    · cases hf
  · split at hf
    · rename_i hs
      cases hf
      obtain ⟨x, rfl, l1⟩ := lkl1 l
      obtain ⟨a, vs, rfl, hn, hl⟩ := l1.node s
      exact ⟨a, vs, rfl, .inr hn.sqT, fun c hc => q _ _ (.new (k := .lst) (fun _ _ z => nomatch z) trivial (hl.shr hs) hc)⟩
    · cases hf
  · cases hf
/-! ### try: .. except X as e: .. -/
def mTryAs (i : Nat) (b : M Fl) (catch_ : String → Bool) (s : String → M Fl) : M Fl := fun r => match b r with
  | .ex c r' => if catch_ c = true then (if i < r'.length then (match s c (r'.set i none) with
      | .ok f r2 => .ok f (r2.set i none)
      | _ => .no) else .no) else .ex c r'
  | x => x
def Gm.withPin (G : Gm) (i : Nat) (v : V) : Gm := { G with pin := fun j => if j = i then some v else G.pin j }
abbrev Io.withPin (io : Io) (i : Nat) (v : V) : Io := ⟨i :: io.l, (i, v) :: io.k, io.tb⟩
theorem pins_with {G : Gm} {i : Nat} {v : V} (g : Pins io G) (hi : i ∉ io.l) : Pins (io.withPin i v) (G.withPin i v) := by
  refine ⟨fun j w e => ?_, fun q hq => ?_, g.2.2⟩
  · have e' : (if j = i then some v else G.pin j) = some w := e
    by_cases z : j = i
    · subst z; exact List.mem_cons_self
    · rw [if_neg z] at e'; exact List.mem_cons_of_mem _ (g.1 j w e')
  · rcases List.mem_cons.mp hq with rfl | hq
    · exact if_pos rfl
    · have e := g.2.1 q hq
      have n : q.1 ≠ i := fun z => hi (by rw [← z]; exact g.1 _ _ e)
      exact (if_neg n).trans e
theorem qs_tryAs {i : Nat} {body suite : List Stmt} {b0 : Stmt} {x n : Str} {c : Value} {np pos' : Pos} {f : String → Bool} {mb : M Fl} {ms : String → M Fl} (hs : X.stack = X.env :: X.outer) (hf : X.env.frame = some X.env.locals) (hN : X.N.Nodup) (hi : X.N[i]? = some n) (hln : X.env.kindOf n = some .local) (hio : i ∉ io.l) (hc : Names X x c) (tk : Takes X W) (hk : Catches X.K T c f)
    (hb : ∀ (W : WX) (pn : List (Addr × Obj)) (xe : Value → Shared → Prop), Takes (X.tr pn xe) W → PassesOwn (model X.prog X.w) X.A X.env xe → QSs T io (X.tr pn xe) W body mb)
    (hsu : ∀ (a : Addr) (oe : Obj) (cn : String) (C : Addr) (pn : List (Addr × Obj)), T cn = some C → f cn = true → Zc (.ref C) none oe → (∃ vs, oe.data = .fields vs) → QSs T (io.withPin i (.ref a)) (X.suite a ((a, oe) :: pn)) W0 (b0 :: suite) (ms cn)) :
    QS T io X W (.Try body [.ExceptHandler (some (.Name x np)) (some n) (b0 :: suite) pos'] [] [] pos) (mTryAs i mb f ms) := fun G g =>
  PS.imp (ps_try_as (tb := fun W => tS X.K T G W mb) (ts := fun a cls d => fun D σ H => ∃ cn C, T cn = some C ∧ f cn = true ∧ cls = .ref C ∧ d = none ∧ tS X.K T (G.withPin i (.ref a)) W0 (ms cn) D σ H) hs hf hN hi hln hc tk (fun W pn xe tk po => hb W pn xe tk po G g) (fun a oe cls d pn hz hd => by
    refine ⟨fun pins s σ H D I h => ?_⟩
    obtain ⟨cn, C, e1, e2, rfl, rfl, h⟩ := h
    exact (hsu a oe cn C pn e1 e2 hz hd _ (pins_with g hio)).run pins s σ H D I h)) fun B σ H ⟨F, r, t, tv, h1, h2⟩ => by
    refine ⟨F, r, t, tv, h1, ?_⟩
    unfold mTryAs at h2
    cases e : mb r with
    | ok a r' => rw [e] at h2; exact h2
    | no => rw [e] at h2; exact h2
    | ex c r' =>
      rw [e] at h2
      intro C σ' F' H' hT s1 h3
      refine ⟨f c, hk c C hT, fun hb a ha => ?_, fun hb => ?_⟩
      · dsimp only at h2
        rw [hb, if_pos rfl] at h2
        have hir : i < r'.length := by
          by_cases hir : i < r'.length
          · exact hir
          · rw [if_neg hir] at h2; exact h2.elim
        rw [if_pos hir] at h2
        have h4 : Rl X.K T (G.withPin i (.ref a)) F' (r'.set i none) t (σ'.set i (some (.ref a))) tv H' := by
          obtain ⟨b0, b1, b2, b3, b4, b5, b6⟩ := (h3.empty i).reval (σ' := σ'.set i (some (.ref a))) (by simp) (fun j ⟨d, ej⟩ => by
            have n : j ≠ i := fun z => by
              subst z
              by_cases hl : j < r'.length
              · rw [List.getElem?_set_self hl] at ej; cases ej
              · rw [List.getElem?_eq_none (by simpa using hl)] at ej; cases ej
            exact List.getElem?_set_ne (Ne.symm n)) (fun j w ew => List.getElem?_set_ne fun z => hio (by rw [z]; exact g.1 j w ew))
          refine ⟨b0, b1, b2, b3, b4, fun j w ew => ?_, b6⟩
          have ew' : (if j = i then some (V.ref a) else G.pin j) = some w := ew
          by_cases z : j = i
          · subst z
            rw [if_pos rfl] at ew'
            cases ew'
            have hj : j < σ'.length := by rw [h3.slots]; exact hir
            rw [List.getElem?_set_self hj]
          · rw [if_neg z] at ew'; exact b5 j w ew'
        refine ⟨c, C, hT, hb, rfl, rfl, F', r'.set i none, t, tv, h4, ?_⟩
        have back : ∀ {r2 : VS} {t2 : List D} {tv2 : List V} {σ2 : L2.St} {F2 H2 : Hp}, Rl X.K T (G.withPin i (.ref a)) F2 r2 t2 σ2 tv2 H2 → Rl X.K T G F2 (r2.set i none) t2 (σ2.set i none) tv2 H2 := fun {r2 t2 tv2 σ2 F2 H2} h => by
          obtain ⟨b0, b1, b2, b3, b4, b5, b6⟩ := h
          have h' : Rl X.K T G F2 r2 t2 σ2 tv2 H2 := ⟨b0, b1, b2, b3, b4, fun j w ew => b5 j w (by
            have n : j ≠ i := fun z => hio (z ▸ g.1 j w ew)
            exact (if_neg n).trans ew), b6⟩
          exact (h'.empty i).reval (by simp) (fun j ⟨d, ej⟩ => by
            have n : j ≠ i := fun z => by
              subst z
              by_cases hl : j < r2.length
              · rw [List.getElem?_set_self hl] at ej; cases ej
              · rw [List.getElem?_eq_none (by simpa using hl)] at ej; cases ej
            exact List.getElem?_set_ne (Ne.symm n)) (fun j w ew => List.getElem?_set_ne fun z => hio (by rw [z]; exact g.1 j w ew))
        cases e5 : ms c (r'.set i none) with
        | no => rw [e5] at h2; exact h2.elim
        | ex _ _ => rw [e5] at h2; exact h2.elim
        | ok fl r2 =>
          rw [e5] at h2
          intro σ2 F2 H2 s2
          cases fl with
          | nx => exact fun h5 => h2 _ F2 H2 (s1.trans s2) (back h5)
          | bk => exact fun h5 => h2 _ F2 H2 (s1.trans s2) (back h5)
          | ct => exact fun h5 => h2 _ F2 H2 (s1.trans s2) (back h5)
          | rt d => exact fun v h5 => h2 _ F2 H2 (s1.trans s2) v (back h5)
      · dsimp only at h2
        rw [hb, if_neg Bool.false_ne_true] at h2
        exact h2 C σ' F' H' hT s1 h3

/-! ### isinstance(e, ..) -/
/-- the test of a caught exception's class, u a class -/
def IsE (K : PySem.W.Frag) (T : String → Option Addr) (u : Value) (f : String → Bool) : Prop := ∀ x C, T x = some C → PySem.W.kitOne K (.ref C) u = some (f x)
theorem qe_isE {i : Nat} {a : Addr} {oe : Obj} {cn : String} {C : Addr} {pn : List (Addr × Obj)} {ce : Expr} {cv : V} {u : Value} {f : String → Bool} {n : Str} {p0 np : Pos} (hT : ExcC X.K C) (ec : T cn = some C) (hz : Zc (.ref C) none oe) (hf : ∃ vs, oe.data = .fields vs)
    (hN : X.N[i]? = some n) (hv : Vis X.env.scope n) (hio : (i, V.ref a) ∈ io.k) (hc : PE (X.suite a ((a, oe) :: pn)) ce (tC cv)) (k : ClsV cv u) (hi : IsE X.K T u f) (hg : Gl X "isinstance") (hm : X.mg "isinstance" = none) (hd : (n == ("__debug__" : Str)) = false := by decide) (hcd : (n == ("__classdict__" : Str)) = false := by decide)
    (hs1 : starEach [.Name n np, ce] X.env = (false, eval (.Name n np) X.env) :: starEach [ce] X.env := by rfl) (hs2 : starEach [ce] X.env = [(false, eval ce X.env)] := by rfl) : QE T io (X.suite a ((a, oe) :: pn)) W true (.Call (.Name "isinstance" p0) [.Name n np, ce] [] pos) (M.ret (.bl (f cn))) :=
  fun G g => PE.imp (pe_callB (X := X.suite a ((a, oe) :: pn)) (call_isE hT hz hf) hg hm (by decide +kernel) (pa_cons (pe_var (X := X.suite a ((a, oe) :: pn)) hN hv hd hcd) (pa_cons hc pa_nil hs2) hs1) (he := hs1) (hpl := by rw [hs2]; rfl)) fun σ H Q ⟨F, r, t, tv, h1, h2⟩ => by
    have e := h1.pin i _ (g.2.1 _ hio)
    exact ⟨_, e, cv, u, f cn, rfl, fun w hw => k.eq hw, hi cn C ec, h2 (.bl (f cn)) F H (Same.refl _) (fun _ => Same.refl _) (h1.push (.leaf rfl))⟩
end
end VL

/-! VL12: defs as the head tells them, classes of errors, the law's end. -/
namespace VL
open PySem PySem.Spec L2

section
variable {T : String → Option Addr} {io : Io} {X : Cx} {W : WX} {p p1 p2 : Bool} {pos : Pos}
/-- THE RULE: a def keeps what its data function says -/
theorem fn_okD {io : List Nat} {P : Program} {w : World} {K : PySem.W.Frag} {mg : Str → Option Value} {base : Heap} {x qual : Str} {params : Arguments} {bd : List Stmt} {sc : Scope} {dvs : List V} {kws : List (Str × V)} {f : Addr} {fd : FuncData} {N ps : List Str} {k n : Nat} {body : M Fl} (F : FunD K x qual params bd sc dvs kws f fd) (S : FnScope N ps sc) (hn : N.length = n) (hio : io.Nodup) (hlt : ∀ i ∈ io, i < ps.length)
    (hb : ∀ (cdv : Value) (A : Around) (outer : List Env) (s : Shared) (H : Hp) (E : XK), Room k (A.deeper (PyProof.Rows.envOfC qual sc s.heap.objs.size f cdv)) →
      QSs T ⟨io, [], []⟩ (cxOf (L2.CX P w) P w K mg base N qual sc f cdv A outer s H E) (fun cls d _ H => E cls d H) bd body) :
    FnOk P w K mg base (L2.CX P w) (k + 1) f fd ps (spV K T ps.length io (fnM n io body)) := by
  refine F.ok S (fun vs H Q E ⟨F0, ds, P0, h1, h2, h3, h4⟩ => by rw [← h1.length, h3]) fun cdv A outer s H vs Q E hr hsp => ?_
  obtain ⟨F0, ds, P0, h1, h2, h3, h4⟩ := hsp
  have hlv : vs.length = ps.length := by rw [← h1.length, h3]
  let G : Gm := ⟨H, P0, F0, fun i => if i ∈ io then vs[i]? else none, []⟩
  have hpin : Pins ⟨io, [], []⟩ G := by
    refine ⟨fun j v e => ?_, (fun q hq => nomatch hq), rfl, fun _ h => nomatch h⟩
    by_cases z : j ∈ io
    · exact z
    · have e' : (if j ∈ io then vs[j]? else none) = some v := e
      rw [if_neg z] at e'; cases e'
  refine ⟨_, hb cdv A outer s H E hr G hpin, F0, ds.map some ++ List.replicate (n - ds.length) none, [], [], ⟨⟨P0, fun _ => False, ?_, .nil fun _ z => z, fun _ _ z => z, fun a z => z.elim .inl False.elim⟩, h2, fun a o e _ => e, fun a o e => .inl e, Same.refl _, fun i v e => ?_, TabF.nil⟩, ?_⟩
  · unfold L2.start
    rw [hn, ← h1.length]
    exact OwS.start _ h1
  · have z : i ∈ io := hpin.1 i v e
    have e' : (if i ∈ io then vs[i]? else none) = some v := e
    rw [if_pos z] at e'
    unfold L2.start
    rw [List.getElem?_append_left (by simpa using (List.getElem?_eq_some_iff.mp e').1), List.getElem?_map, e']
    rfl
  · -- the ends
    have fin : ∀ {r : VS} {d : D} {v : V} {o : List D} {σ' : L2.St} {F' H' : Hp}, outs? r io = some o → Rl K T G F' r [d] σ' [v] H' → ∃ vo P', OwL K T F' H' (o ++ [d]) (vo ++ [v]) P' ∧ Aft F0 H P0 F' H' P' ∧ vo.map some = io.map fun i => vs[i]? := by
      intro r d v o σ' F' H' e h
      obtain ⟨vo, r', e1, q, _⟩ := Rl.takes hio h e
      obtain ⟨⟨Ps, Pt, g1, g2, dj, hp⟩, b1, b2, b3, b4, b5, b6⟩ := q
      refine ⟨vo, Pt, g2, ⟨b4, b1, b2, fun a z => hp a (.inr z), b3⟩, ?_⟩
      rw [e1]
      refine List.map_congr_left fun i hi => ?_
      have e2 : G.pin i = vs[i]? := if_pos hi
      have hi2 : i < vs.length := by rw [hlv]; exact hlt i hi
      rw [List.getElem?_eq_getElem hi2] at e2 ⊢
      rw [b5 i _ e2]; rfl
    have finE : ∀ {r : VS} {o : List D} {σ' : L2.St} {F' H' : Hp}, outs? r io = some o → Rl K T G F' r [] σ' [] H' → ∃ vo P', OwL K T F' H' o vo P' ∧ Aft F0 H P0 F' H' P' ∧ vo.map some = io.map fun i => vs[i]? := by
      intro r o σ' F' H' e h
      obtain ⟨vo, r', e1, q, _⟩ := Rl.takes hio h e
      obtain ⟨⟨Ps, Pt, g1, g2, dj, hp⟩, b1, b2, b3, b4, b5, b6⟩ := q
      rw [List.append_nil, List.append_nil] at g2
      refine ⟨vo, Pt, g2, ⟨b4, b1, b2, fun a z => hp a (.inr z), b3⟩, ?_⟩
      rw [e1]
      refine List.map_congr_left fun i hi => ?_
      have e2 : G.pin i = vs[i]? := if_pos hi
      have hi2 : i < vs.length := by rw [hlv]; exact hlt i hi
      rw [List.getElem?_eq_getElem hi2] at e2 ⊢
      rw [b5 i _ e2]; rfl
    unfold fnM at h4
    cases e : body (ds.map some ++ List.replicate (n - ds.length) none) with
    | no => rw [e] at h4; exact h4
    | ex c r =>
      rw [e] at h4
      dsimp only at h4
      cases e2 : outs? r io with
      | none => rw [e2] at h4; exact h4.elim
      | some o =>
        rw [e2] at h4
        intro C σ' F' H' hT s1 h5
        obtain ⟨vo, P', g1, g2, g3⟩ := finE e2 h5
        exact h4 C F' H' vo P' hT g1 g2 g3
    | ok f r =>
      rw [e] at h4
      intro σ' F' H' s1
      cases f with
      | bk => exact h4.elim
      | ct => exact h4.elim
      | nx =>
        dsimp only at h4
        cases e2 : outs? r io with
        | none => rw [e2] at h4; exact h4.elim
        | some o =>
          rw [e2] at h4
          intro h5
          obtain ⟨vo, P', g1, g2, g3⟩ := fin (d := .non) (v := .non) e2 (h5.push (.leaf rfl))
          exact h4 .non F' H' vo P' g1 g2 g3
      | rt d =>
        dsimp only at h4
        cases e2 : outs? r io with
        | none => rw [e2] at h4; exact h4.elim
        | some o =>
          rw [e2] at h4
          intro v h5
          obtain ⟨vo, P', g1, g2, g3⟩ := fin e2 h5
          exact h4 v F' H' vo P' g1 g2 g3


/-! ### classes by names -/
def clT (cs : List String) (K : PySem.W.Frag) : String → Option Addr := fun c => if c ∈ cs then some (He.ga K (Str.ofString c)) else none
theorem clT_in {cs : List String} {K : PySem.W.Frag} {c : String} (h : c ∈ cs) : clT cs K c = some (He.ga K (Str.ofString c)) := if_pos h
theorem clT_of {cs : List String} {K : PySem.W.Frag} {c : String} {C : Addr} (h : clT cs K c = some C) : c ∈ cs ∧ C = He.ga K (Str.ofString c) := by
  unfold clT at h
  split at h
  · exact ⟨by assumption, (Option.some.inj h).symm⟩
  · cases h
/-- which of cs the clause takes: l -/
def catB (cs : List String) (u : Value) (l : List String) (K : PySem.W.Frag) : Bool := cs.all fun x => decide (PySem.W.exmOne K (.ref (He.ga K (Str.ofString x))) u = some (decide (x ∈ l)))
theorem catB_ok {cs : List String} {u : Value} {l : List String} {K : PySem.W.Frag} (h : catB cs u l K = true) : Catches K (clT cs K) u fun x => decide (x ∈ l) := fun x C e => by
  obtain ⟨hx, rfl⟩ := clT_of e
  exact of_decide_eq_true (List.all_eq_true.mp h x hx)
def isB (cs : List String) (u : Value) (l : List String) (K : PySem.W.Frag) : Bool := cs.all fun x => decide (PySem.W.kitOne K (.ref (He.ga K (Str.ofString x))) u = some (decide (x ∈ l)))
theorem isB_ok {cs : List String} {u : Value} {l : List String} {K : PySem.W.Frag} (h : isB cs u l K = true) : IsE K (clT cs K) u fun x => decide (x ∈ l) := fun x C e => by
  obtain ⟨hx, rfl⟩ := clT_of e
  exact of_decide_eq_true (List.all_eq_true.mp h x hx)
def excB (x : String) (K : PySem.W.Frag) : Bool :=
  decide (PySem.W.findIn K (.ref (He.ga K (Str.ofString x))) "__getattribute__" = some (some (.builtin "BaseException.__getattribute__"))) &&
  (decide (PySem.W.findIn K (.ref (He.ga K (Str.ofString x))) "__getattr__" = some none) &&
  (decide (PySem.W.subIn K (.ref (He.ga K (Str.ofString x))) (.type "BaseException") = some true) &&
  (PySem.W.hasDictIn K (He.ga K (Str.ofString x)) &&
  (decide (PySem.W.findIn K (.ref (He.ga K (Str.ofString x))) "__class__" = some (some (.builtin "object.__class__"))) &&
  (decide (PySem.W.specialIn K (.builtin "object.__class__") "__get__" = some (some (.builtin "getset_descriptor.__get__"))) &&
  (decide (PySem.W.takesIn K (.builtin "object.__class__") = some true) &&
  decide (PySem.W.mroIn K (He.ga K (Str.ofString x)) (.type "object") = some true)))))))
theorem excB_ok {x : String} {K : PySem.W.Frag} (h : excB x K = true) : ExcC K (He.ga K (Str.ofString x)) := by
  unfold excB at h
  simp only [Bool.and_eq_true, decide_eq_true_eq] at h
  exact ⟨h.1, h.2.1, h.2.2.1, h.2.2.2.1, h.2.2.2.2.1, h.2.2.2.2.2.1, h.2.2.2.2.2.2.1, h.2.2.2.2.2.2.2⟩
theorem qs_raiseOwn {cs : List String} {c : String} {m : Str} {j} {pp p2' pos2 : Pos} (hc : X.calm = true) (tk : Takes X W) (hx : c ∈ cs) (hf : (He.Fa.exc (Str.ofString c)).ok X.K = true) (gC : X.mg (Str.ofString c) = some (.ref (He.ga X.K (Str.ofString c)))) (hg : Gl X (Str.ofString c))
    (hdb : ((Str.ofString c) == ("__debug__" : Str)) = false := by decide) : QS (clT cs X.K) io X W (.Raise (some (.Call (.Name (Str.ofString c) pp) [.Constant (.str m) j p2'] [] pos)) none pos2) (mRaise c) :=
  let h := He.exc_ok hf
  qs_raise hc tk (clT_in hx) (pmk_own PySem.F.excBase_ValueError h.1 gC h.2.1 (raises_own h.2.2.1 h.2.2.2) hg hdb)
end

/-! ### the law's end -/
theorem ints_fz {K : PySem.W.Frag} {T : String → Option Addr} {F : Hp} : ∀ (ns : List Int), FzL K T F (ns.map D.int) (ns.map V.int)
  | [] => .nil
  | n :: ns => .cons (.leaf rfl) (ints_fz ns)
theorem law_sp {K : PySem.W.Frag} {T : String → Option Addr} {m : Fn} {n : Nat} (h : ∀ ns : List Int, ns.length ≤ n → m [.lst false (ns.map D.int)] = .ok (.bl true) []) {H : Hp} {a : Addr} {ns : List Int} {E : XK} (hl : ns.length ≤ n) (hS : SqL K H a (ns.map V.int)) :
    spV K T 1 [] m [.ref a] H (fun v _ => v = .bl true) E := by
  refine ⟨H, [.lst false (ns.map D.int)], fun _ => False, FzL.owl (fun _ q => q) (.cons (.node ⟨trivial, hS⟩ (ints_fz ns)) .nil), Same.refl _, rfl, ?_⟩
  rw [h ns hl]
  intro v F' H' vo P' w1 w2 w3
  have : vo = [] := by cases vo with | nil => rfl | cons _ _ => cases w3
  subst this
  cases w1 with
  | cons o _ _ _ => cases o with | leaf z _ => exact z
end VL

/-! VL13: small ends. -/
namespace VL
open PySem PySem.Spec L2
theorem hu64 {k : Nat} {A : Around} (hr : Room k A) : A.units + 64 < cLine := by have := hr.un; omega
theorem hu65 {k : Nat} {A : Around} (hr : Room k A) : A.units + 65 < cLine := by have := hr.un; omega
theorem cx_none {P : Program} {w : World} {o : List Env} {H : Hp} {s : Shared} {e : Value} {s' : Shared} (c : L2.CX P w o H s (fun _ _ _ => False) e s') : False := by
  obtain ⟨a, B, H', cls, d, rfl, fl, hok, ub, na, os, ag, hE⟩ := c
  exact hE
/-- the law's end: a def of the top that answers True at every script -/
theorem walk_law {l : PySem.W.OpenLaw} {n k : Nat} {q : Program} {loose : List Str} {XP : (Str → Option Value) → Heap → Prop} {YP : World → Heap → Prop} {d : DefRec} {x : Str} {m : Fn} (hn : l.most = some n) (hn2 : n ≤ sizeLine) (hdf : d.params.defaults = []) (hr : Room k callerA)
    (hm : ∀ ns : List Int, ns.length ≤ n → m [.lst false (ns.map D.int)] = .ok (.bl true) [])
    (F : ∀ (w : World) (mg : Str → Option Value) (fa : Addr) (h : Heap), YP w h → h.Ns mainGlobals mg → mg d.name = some (.ref fa) → ∃ (K : PySem.W.Frag) (T : String → Option Addr) (fd : FuncData), K.In h ∧ (∀ (s : Shared) (u : Value), BindsTo s fd ⟨[u], []⟩ [(x, u)]) ∧
      ∀ base : Heap, K.In base → base.Ns mainGlobals mg → FnOk l.prog w K mg base (L2.CX l.prog w) k fa fd [x] (spV K T 1 [] m)) :
    PySem.W.WalkO q loose XP YP l.row.toRowW d [] (fun f vs => PySem.call f vs) := by
  refine Att.attach_call hn hdf fun w s0 s1 mg mb fa o pm cd doc a vs ns G Y ho hd hcd hmg hobj hints hlen hg => ?_
  obtain ⟨K, T, fd, KX, hb, hF⟩ := F w mg fa _ Y G.T.g hmg
  exact law_call (CX := L2.CX l.prog w) KX G.T.g G.T.b G.T.builtins G.T.nolimit hg hobj hints (Nat.le_trans hlen hn2) hr hF hb (fun H _ hS => law_sp hm hlen hS) fun H e s' z => cx_none z
section
variable {T : String → Option Addr} {io : Io} {X : Cx} {W : WX} {p p1 p2 : Bool} {pos : Pos}
/-! the same with the purity as a parameter -/
theorem xqw_and {pp : Bool} {a b : Expr} {rest : List Expr} {ma mb : M Bool} (ha : QT T io X W p1 a ma) (hb : QW T io X W p2 (.BoolOp .And (b :: rest) pos) mb) (hpp : (p1 && p2) = pp := by rfl) : QW T io X W pp (.BoolOp .And (a :: b :: rest) pos) (mAndT ma mb) := by
  subst hpp
  exact qw_and (ha := ha) (hb := hb)
theorem xqw_or {pp : Bool} {a b : Expr} {rest : List Expr} {ma mb : M Bool} (ha : QT T io X W p1 a ma) (hb : QW T io X W p2 (.BoolOp .Or (b :: rest) pos) mb) (hpp : (p1 && p2) = pp := by rfl) : QW T io X W pp (.BoolOp .Or (a :: b :: rest) pos) (mOrT ma mb) := by
  subst hpp
  exact qw_or (ha := ha) (hb := hb)
theorem xqa_cons {pp : Bool} {e : Expr} {es : List Expr} {a : M D} {b : M (List D)} (ha : QE T io X W p1 e a) (hb : QA T io X W p2 es b) (hs : starEach (e :: es) X.env = (false, eval e X.env) :: starEach es X.env := by rfl) (hpp : (p1 && p2) = pp := by rfl) : QA T io X W pp (e :: es) (mCons a b) := by
  subst hpp
  exact qa_cons (ha := ha) (hb := hb) (hs := hs)
theorem xqai_cons {pp : Bool} {e : Expr} {es : List Expr} {bk : List (Option Nat)} {a : M D} {b : M (List D)} (ha : QE T io X W p1 e a) (hb : QAI T io X W p2 bk es b) (hs : starEach (e :: es) X.env = (false, eval e X.env) :: starEach es X.env := by rfl) (hpp : (p1 && p2) = pp := by rfl) : QAI T io X W pp (none :: bk) (e :: es) (mCons a b) := by
  subst hpp
  exact qai_cons (ha := ha) (hb := hb) (hs := hs)
theorem xqe_comp {pp : Bool} {ol : List Nat} {elt tg src : Expr} {ifs : List Expr} {scope : Scope} {own : List (Str × Nat)} {ms : M (List D)} {el : M D} {g : Gt} {sl : List Nat} {pg : Bool} {c : M Bool} (hc : X.calm = true) (hN : X.N.Nodup) (ok : BlkOk X.N X.env.scope scope own) (hsrc : QI T io X W p tg src ms) (hg : ∀ (s : Shared) (H : Hp) (C : Addr) (cl : List (Str × Addr)) (fp : List Addr), QG T io (X.blk s H scope (compEnvC scope cl C X.env) fp) sl pg tg g) (ht : ∀ (s : Shared) (H : Hp) (C : Addr) (cl : List (Str × Addr)) (fp : List Addr), QTs T io (X.blk s H scope (compEnvC scope cl C X.env) fp) W0 p1 ifs c) (he : ∀ (s : Shared) (H : Hp) (C : Addr) (cl : List (Str × Addr)) (fp : List Addr), QE T io (X.blk s H scope (compEnvC scope cl C X.env) fp) W0 p2 elt el) (hsl : ∀ j ∈ sl, j ∈ own.map (·.2)) (hio : ∀ j ∈ io.l, j ∉ own.map (·.2)) (hs : ∀ x, foldedSetIterable src X.env x = pure x := by intro _; rfl) (hpp : (p && (pg && (p1 && p2))) = pp := by rfl) (hol : (own.map (·.2)) = ol := by rfl) : QE T io X W pp (.ListComp elt [⟨tg, src, ifs, 0⟩] scope pos) (mComp ol ms g c el) := by
  subst hpp
  subst hol
  exact qe_comp (hc := hc) (hN := hN) (ok := ok) (hsrc := hsrc) (hg := hg) (ht := ht) (he := he) (hsl := hsl) (hio := hio) (hs := hs)
end
end VL

/-! VL14: the plain laws' tools: how the data functions run. -/
namespace VL
open PySem PySem.Spec L2

/-- an equation that simp is to use by its proof -/
theorem nr {α : Sort _} {a b : α} (h : a = b) : a = b := h
def R.andThen {α β : Type} : R α → (α → M β) → R β
  | .ok a r, k => k a r
  | .ex c r, _ => .ex c r
  | .no, _ => .no
@[simp] theorem andThen_ok {α β : Type} (a : α) (r : VS) (k : α → M β) : (R.ok a r).andThen k = k a r := nr rfl
@[simp] theorem andThen_ex {α β : Type} (c : String) (r : VS) (k : α → M β) : (R.ex c r : R α).andThen k = .ex c r := nr rfl
@[simp] theorem andThen_no {α β : Type} (k : α → M β) : (R.no : R α).andThen k = .no := nr rfl
@[simp] theorem bind_app {α β : Type} (m : M α) (k : α → M β) (r : VS) : M.bind m k r = (m r).andThen k := by
  unfold M.bind
  cases m r <;> rfl
@[simp] theorem ret_app {α : Type} (a : α) (r : VS) : M.ret a r = .ok a r := nr rfl
@[simp] theorem no_app {α : Type} (r : VS) : (M.no : M α) r = .no := nr rfl
@[simp] theorem opt_some {α : Type} (a : α) (r : VS) : M.opt (some a) r = .ok a r := nr rfl
@[simp] theorem opt_none {α : Type} (r : VS) : M.opt (none : Option α) r = .no := nr rfl
@[simp] theorem ck_true (r : VS) : M.ck true r = .ok () r := nr rfl
@[simp] theorem ck_dec {p : Prop} [Decidable p] (h : p) (r : VS) : M.ck (decide p) r = .ok () r := by rw [decide_eq_true h]; rfl
@[simp] theorem slot0 (d : D) (r : VS) : slot? 0 (some d :: r) = some d := nr rfl
@[simp] theorem slotS (i : Nat) (x : Option D) (r : VS) : slot? (i + 1) (x :: r) = slot? i r := nr rfl
@[simp] theorem mPeek_app (i : Nat) (r : VS) : mPeek i r = match slot? i r with | some d => .ok d r | none => .no := nr rfl
@[simp] theorem mMove_app (i : Nat) (r : VS) : mMove i r = match slot? i r with | some d => .ok d (r.set i none) | none => .no := nr rfl
@[simp] theorem mVar_app (i : Nat) (r : VS) : mVar i r = match slot? i r with | some d => if d.shr then .ok d r else .ok d.frz (r.set i (some d.frz)) | none => .no := nr rfl
@[simp] theorem Z159 (s : Sc) : (D.leaf s).shr = true := nr rfl
@[simp] theorem Z160 (o : Bool) (k : Kn) (ds : List D) : (D.node o k ds).shr = !o := nr rfl
@[simp] theorem Z155 (s : Sc) : (D.leaf s).frz = .leaf s := by simp [D.frz]
@[simp] theorem Z156 (o : Bool) (k : Kn) (ds : List D) : (D.node o k ds).frz = .node false k (D.frzL ds) := by simp [D.frz]
@[simp] theorem Z153 : D.frzL [] = [] := by simp [D.frzL]
@[simp] theorem Z154 (d : D) (ds : List D) : D.frzL (d :: ds) = d.frz :: D.frzL ds := by simp [D.frzL]
@[simp] theorem Z157 (ns : List Int) : D.frzL (ns.map D.int) = ns.map D.int := by
  rw [frzL_map, List.map_map]
  refine List.map_congr_left fun n _ => ?_
  exact Z155 _
@[simp] theorem Z161 (ns : List Int) : (ns.map D.int).all D.shr = true := by
  rw [List.all_map, List.all_eq_true]
  intro n _
  rfl
@[simp] theorem mOp1_app (f : D → Option D) (a : M D) (r : VS) : mOp1 f a r = (a r).andThen fun x => M.opt (f x) := by simp [mOp1]
@[simp] theorem mOp2_app (f : D → D → Option D) (a b : M D) (r : VS) : mOp2 f a b r = (a r).andThen fun x r => (b r).andThen fun y => M.opt (f x y) := by
  simp only [mOp2, bind_app]
  congr 1
  funext x r
  exact bind_app ..
@[simp] theorem mOpN_app (f : List D → Option D) (a : M (List D)) (r : VS) : mOpN f a r = (a r).andThen fun x => M.opt (f x) := by simp [mOpN]
@[simp] theorem mNil_app (r : VS) : mNil r = .ok [] r := nr rfl
@[simp] theorem mCons_app (a : M D) (b : M (List D)) (r : VS) : mCons a b r = (a r).andThen fun d r => (b r).andThen fun ds r => .ok (d :: ds) r := by
  simp only [mCons, bind_app]
  congr 1
  funext x r
  rw [bind_app]
  rfl
@[simp] theorem mTest_app (a : M D) (r : VS) : mTest a r = (a r).andThen fun d => M.opt d.bl? := bind_app ..
@[simp] theorem Z192 (b : Bool) : (D.leaf (.bl b)).bl? = some b := nr rfl
@[simp] theorem mNotT_app (a : M Bool) (r : VS) : mNotT a r = (a r).andThen fun b r => .ok (!b) r := bind_app ..
@[simp] theorem mAndT_app (a b : M Bool) (r : VS) : mAndT a b r = (a r).andThen fun x r => if x = true then b r else .ok false r := by
  simp only [mAndT, bind_app]; congr 1; funext x r; split <;> rfl
@[simp] theorem mOrT_app (a b : M Bool) (r : VS) : mOrT a b r = (a r).andThen fun x r => if x = true then .ok true r else b r := by
  simp only [mOrT, bind_app]; congr 1; funext x r; split <;> rfl
@[simp] theorem mAnd_app (a b : M D) (r : VS) : mAnd a b r = (a r).andThen fun x r => (M.opt x.bl? r).andThen fun c r => if c = true then b r else .ok (.bl false) r := by
  simp only [mAnd, bind_app]; congr 1; funext x r; rw [bind_app]; congr 1; funext c r; split <;> rfl
@[simp] theorem mOr_app (a b : M D) (r : VS) : mOr a b r = (a r).andThen fun x r => (M.opt x.bl? r).andThen fun c r => if c = true then .ok (.bl true) r else b r := by
  simp only [mOr, bind_app]; congr 1; funext x r; rw [bind_app]; congr 1; funext c r; split <;> rfl
@[simp] theorem mNot_app (a : M D) (r : VS) : mNot a r = (a r).andThen fun x r => (M.opt x.bl? r).andThen fun c r => .ok (.bl (!c)) r := by
  simp only [mNot, bind_app]; congr 1; funext x r; rw [bind_app]; rfl
@[simp] theorem mIf_app (c : M Bool) (a b : M D) (r : VS) : mIf c a b r = (c r).andThen fun x r => if x = true then a r else b r := by
  simp only [mIf, bind_app]; congr 1; funext x r; split <;> rfl
@[simp] theorem mIfS_app (c : M Bool) (a b : M Fl) (r : VS) : mIfS c a b r = (c r).andThen fun x r => if x = true then a r else b r := by
  simp only [mIfS, bind_app]; congr 1; funext x r; split <;> rfl
@[simp] theorem mSh_app (a : M D) (r : VS) : mSh a r = (a r).andThen fun d r => (M.ck d.shr r).andThen fun _ r => .ok d r := by
  simp only [mSh, bind_app]; congr 1; funext x r; rw [bind_app]; rfl
@[simp] theorem mIx_app (a b : M D) (r : VS) : mIx a b r = (a r).andThen fun x r => (b r).andThen fun y => M.opt (fIx x y) := mOp2_app ..
@[simp] theorem mIsi_app (f : String → Bool) (a : M D) (r : VS) : mIsi f a r = (a r).andThen fun d r => (M.ck (noIns d) r).andThen fun _ r => .ok (.bl (f (tyD d))) r := by
  simp only [mIsi, bind_app]; congr 1; funext x r; rw [bind_app]; rfl
@[simp] theorem mLst_app (a : M (List D)) (r : VS) : mLst a r = (a r).andThen fun ds r => (M.ck (decide (ds.length ≤ sizeLine)) r).andThen fun _ r => .ok (.lst true ds) r := by
  simp only [mLst, bind_app]; congr 1; funext x r; rw [bind_app]; rfl
@[simp] theorem mTup_app (a : M (List D)) (r : VS) : mTup a r = (a r).andThen fun ds r => (M.ck (decide (ds.length ≤ sizeLine)) r).andThen fun _ r => .ok (.tup (!ds.all D.shr) ds) r := by
  simp only [mTup, bind_app]; congr 1; funext x r; rw [bind_app]; rfl
@[simp] theorem Z162 (i : Nat) (d : D) (r : VS) : gPut i d r = if i < r.length then some (r.set i (some d)) else none := nr rfl
@[simp] theorem mAsg_app (a : M D) (g : Gt) (r : VS) : mAsg a g r = (a r).andThen fun d r => match g d r with | some r' => .ok .nx r' | none => .no := by
  simp only [mAsg, bind_app]; rfl
@[simp] theorem mDrop_app (a : M D) (r : VS) : mDrop a r = (a r).andThen fun _ r => .ok .nx r := bind_app ..
@[simp] theorem mRet_app (a : M D) (r : VS) : mRet a r = (a r).andThen fun d r => .ok (.rt d) r := bind_app ..
@[simp] theorem mRaise_app (c : String) (r : VS) : mRaise c r = .ex c r := nr rfl
@[simp] theorem mSeq_app (a b : M Fl) (r : VS) : mSeq a b r = (a r).andThen fun f r => match f with | .nx => b r | f => .ok f r := by
  simp only [mSeq, bind_app]; congr 1; funext f r; cases f <;> rfl
@[simp] theorem mCallB_app (np : Nat) (fn : Fn) (a : M (List D)) (r : VS) : mCallB np fn a r = (a r).andThen fun ds r => (M.ck (decide (ds.length = np)) r).andThen fun _ r => runB fn (D.frzL ds) r := by
  simp only [mCallB, bind_app]; congr 1; funext f r; rw [bind_app]
@[simp] theorem mCallF_app (np : Nat) (fn : Fn) (a : M (List D)) (r : VS) : mCallF np fn a r = (a r).andThen fun ds r => (M.ck (decide (ds.length = np)) r).andThen fun _ r => runF fn (D.frzL ds) r := by
  simp only [mCallF, bind_app]; congr 1; funext f r; rw [bind_app]
/-! the operators on numbers -/
section
variable (i j : Int)
@[simp] theorem Z163 : fLt (.int i) (.int j) = some (.bl (decide (i < j))) := nr rfl
@[simp] theorem Z164 : fLe (.int i) (.int j) = some (.bl (decide (i ≤ j))) := nr rfl
@[simp] theorem Z165 : fGt (.int i) (.int j) = some (.bl (decide (j < i))) := nr rfl
@[simp] theorem Z166 : fGe (.int i) (.int j) = some (.bl (decide (j ≤ i))) := nr rfl
@[simp] theorem Z167 : fAdd (.int i) (.int j) = some (.int (i + j)) := nr rfl
@[simp] theorem Z168 : fSub (.int i) (.int j) = some (.int (i - j)) := nr rfl
@[simp] theorem Z169 : fNeg (.int i) = some (.int (-i)) := nr rfl
@[simp] theorem Z170 : fAbs [.int i] = some (.int (if i < 0 then -i else i)) := nr rfl
@[simp] theorem Z171 : fIntC [.int i] = some (.int i) := nr rfl
@[simp] theorem Z172 (b : Bool) : fIntC [.bl b] = some (.int (if b then 1 else 0)) := nr rfl
@[simp] theorem Z173 : fMax2 [.int i, .int j] = some (.int (if j > i then j else i)) := nr rfl
@[simp] theorem Z174 : fMin2 [.int i, .int j] = some (.int (if j < i then j else i)) := nr rfl
theorem fInt2_if (c : Int → Int → Bool) (g : Int → Int → Int) : fInt2 c g (.int i) (.int j) = if c i j = true then some (.int (g i j)) else none := nr rfl
theorem Z175 (h : 0 < j) : fMod (.int i) (.int j) = some (.int (i % j)) := by simp only [fMod, fInt2_if, decide_eq_true h, if_true]
theorem Z176 (h : 0 < j) (h2 : j < 1073741824) : fDiv (.int i) (.int j) = some (.int (i / j)) := by simp only [fDiv, fInt2_if, decide_eq_true (And.intro h h2), if_true]
theorem fMul_int (h : (-(2 ^ 64) < i ∧ i < 2 ^ 64) ∨ (-(2 ^ 64) < j ∧ j < 2 ^ 64)) : fMulI (.int i) (.int j) = some (.int (i * j)) := by simp only [fMulI, fInt2_if, decide_eq_true h, if_true]
theorem fPow_int (h : 0 ≤ j ∧ j ≤ 1000000 ∧ i.natAbs < 2 ^ 64) : fPow (.int i) (.int j) = some (.int (i ^ j.toNat)) := by simp only [fPow, fInt2_if, decide_eq_true h, if_true]
end
@[simp] theorem Z180 (o : Bool) (ds : List D) : fLen [.node o .lst ds] = some (.int ds.length) := nr rfl
@[simp] theorem Z181 (o : Bool) (ds : List D) : fLen [.node o .tup ds] = some (.int ds.length) := nr rfl
theorem fIx_lst (o : Bool) (ds : List D) (i : Int) : fIx (.node o .lst ds) (.int i) = atI ds i := nr rfl
theorem ixN_nat {n k : Nat} (h : k < n) : ixN n (k : Int) = some k := by
  unfold ixN
  simp [h]
theorem atI_nat {α : Type} {l : List α} {k : Nat} (h : k < l.length) : atI l (k : Int) = l[k]? := by
  unfold atI
  rw [ixN_nat h]
  rfl

/-! ### loops -/
@[simp] theorem mFor_app (src : M (List D)) (g : Gt) (b : M Fl) (r : VS) : mFor src g b r = (src r).andThen (mForL g b) := bind_app ..
@[simp] theorem forL_nil (g : Gt) (b : M Fl) (r : VS) : mForL g b [] r = .ok .nx r := nr rfl
theorem forL_cons (g : Gt) (b : M Fl) (d : D) (ds : List D) (r : VS) : mForL g b (d :: ds) r = (mTo g d r).andThen fun _ r => (b r).andThen (loopK (mForL g b ds)) := by
  show M.bind _ _ r = _
  rw [bind_app]; congr 1; funext x r; exact bind_app ..
@[simp] theorem iRg1_app (a : M D) (r : VS) : iRg1 a r = (a r).andThen fun d r => (M.opt (int? d) r).andThen fun j r => (M.ck (bnd j) r).andThen fun _ r => .ok (rangeL 0 j.toNat) r := by
  simp only [iRg1, bind_app]; congr 1; funext x r; rw [bind_app]; congr 1; funext x r; rw [bind_app]; rfl
@[simp] theorem iRg2_app (a c : M D) (r : VS) : iRg2 a c r = (a r).andThen fun d r => (c r).andThen fun e r => (M.opt (int? d) r).andThen fun i r => (M.opt (int? e) r).andThen fun j r => (M.ck (bnd i && bnd j) r).andThen fun _ r => .ok (rangeL i (j - i).toNat) r := by
  simp only [iRg2, bind_app]; congr 1; funext x r; rw [bind_app]; congr 1; funext x r; rw [bind_app]; congr 1; funext x r; rw [bind_app]; congr 1; funext x r; rw [bind_app]; rfl
@[simp] theorem int?_int (i : Int) : int? (.int i) = some i := nr rfl
@[simp] theorem iSeq_app (a : M D) (r : VS) : iSeq a r = (a r).andThen fun d r => (M.opt (seq? d) r).andThen fun ds r => .ok (D.frzL ds) r := by
  simp only [iSeq, bind_app]; congr 1; funext x r; rw [bind_app]; rfl
@[simp] theorem seq?_lst (o : Bool) (ds : List D) : seq? (.node o .lst ds) = some ds := nr rfl
@[simp] theorem seq?_tup (o : Bool) (ds : List D) : seq? (.node o .tup ds) = some ds := nr rfl
@[simp] theorem rangeL_length (lo : Int) (n : Nat) : (rangeL lo n).length = n := by simp [rangeL]
/-! ### comprehensions -/
@[simp] theorem mComp_app (own : List Nat) (src : M (List D)) (g : Gt) (c : M Bool) (el : M D) (r : VS) : mComp own src g c el r = (src r).andThen (lcRun own g c el) := bind_app ..
@[simp] theorem lcL_nil (own : List Nat) (g : Gt) (c : M Bool) (el : M D) (acc : List D) (r : VS) : lcL own g c el [] acc r = .ok acc (hide own r) := nr rfl
/-! ### equality of lists of numbers -/
@[simp] theorem Z182 (i j : Int) : fEq (.int i) (.int j) = some (.bl (decide (i = j))) := by
  unfold fEq eqPy
  simp [D.py, SeqAt.shaped, PyData.canLay0, PyData.depth, PyData.eqv]
  exact Bool.eq_iff_iff.mpr (by simp)
@[simp] theorem Z183 (i j : Int) : fNe (.int i) (.int j) = some (.bl (!decide (i = j))) := by
  unfold fNe eqPy
  simp [D.py, SeqAt.shaped, PyData.canLay0, PyData.depth, PyData.eqv]
  exact Bool.eq_iff_iff.mpr (by simp)
end VL

/-! VL15: more constructs. -/
namespace VL
open PySem PySem.Spec L2
section
variable {T : String → Option Addr} {io : Io} {X : Cx} {W : WX} {p p1 p2 : Bool} {pos : Pos}
/-- x op= e, numbers -/
def slotI (i : Nat) : M Int := fun r => match slot? i r with
  | some (.leaf (.int a)) => .ok a r
  | _ => .no
def mAug (i : Nat) (f : Int → Int → Int) (e : M D) : M Fl := M.bind (slotI i) fun a => M.bind e fun d => M.bind (M.opt (int? d)) fun b => mTo (gPut i) (.int (f a b))
/-! ### calls with defaults left out -/
inductive ScVs : List Sc → List V → Prop
  | nil : ScVs [] []
  | cons {s : Sc} {v : V} {ss : List Sc} {vs : List V} : ScV s v → ScVs ss vs → ScVs (s :: ss) (v :: vs)
theorem ScVs.fz {K : PySem.W.Frag} {T : String → Option Addr} {F : Hp} : ∀ {ss : List Sc} {vs : List V}, ScVs ss vs → FzL K T F (ss.map D.leaf) vs
  | [], _, h => by cases h; exact .nil
  | s :: ss, _, h => by cases h with | cons a b => exact .cons (.leaf a) (ScVs.fz b)
theorem LkL.append {K : PySem.W.Frag} {T : String → Option Addr} {F H : Hp} : ∀ {ds es : List D} {vs ws : List V}, LkL K T F H ds vs → LkL K T F H es ws → LkL K T F H (ds ++ es) (vs ++ ws)
  | [], _, _, _, h, h2 => by cases h; exact h2
  | d :: ds, _, _, _, h, h2 => by cases h with | cons a b => exact .cons a (LkL.append b h2)
def mCallBD (np : Nat) (fn : Fn) (ss : List Sc) (args : M (List D)) : M D := M.bind args fun ds => M.bind (M.ck (decide ((ds ++ ss.map D.leaf).length = np))) fun _ => runB fn (D.frzL (ds ++ ss.map D.leaf))
def mCallFD (np : Nat) (fn : Fn) (ss : List Sc) (args : M (List D)) : M D := M.bind args fun ds => M.bind (M.ck (decide ((ds ++ ss.map D.leaf).length = np))) fun _ => runF fn (D.frzL (ds ++ ss.map D.leaf))
end
@[simp] theorem mCallBD_app (np : Nat) (fn : Fn) (ss : List Sc) (a : M (List D)) (r : VS) : mCallBD np fn ss a r = (a r).andThen fun ds r => (M.ck (decide ((ds ++ ss.map D.leaf).length = np)) r).andThen fun _ r => runB fn (D.frzL (ds ++ ss.map D.leaf)) r := by
  simp only [mCallBD, bind_app]; congr 1; funext f r; rw [bind_app]
@[simp] theorem mCallFD_app (np : Nat) (fn : Fn) (ss : List Sc) (a : M (List D)) (r : VS) : mCallFD np fn ss a r = (a r).andThen fun ds r => (M.ck (decide ((ds ++ ss.map D.leaf).length = np)) r).andThen fun _ r => runF fn (D.frzL (ds ++ ss.map D.leaf)) r := by
  simp only [mCallFD, bind_app]; congr 1; funext f r; rw [bind_app]
@[simp] theorem mAug_app (i : Nat) (f : Int → Int → Int) (e : M D) (r : VS) : mAug i f e r = (slotI i r).andThen fun a r => (e r).andThen fun d r => (M.opt (int? d) r).andThen fun b r => mTo (gPut i) (.int (f a b)) r := by
  simp only [mAug, bind_app]; congr 1; funext x r; rw [bind_app]; congr 1; funext x r; rw [bind_app]
@[simp] theorem slotI_app (i : Nat) (r : VS) : slotI i r = match slot? i r with | some (.leaf (.int a)) => .ok a r | _ => .no := nr rfl
@[simp] theorem mTo_app (g : Gt) (d : D) (r : VS) : mTo g d r = match g d r with | some r' => .ok .nx r' | none => .no := nr rfl
/-! ### steps, one statement at a time -/
theorem seq_nx {a b : M Fl} {r r1 : VS} {x : R Fl} (h : a r = .ok .nx r1) (h2 : b r1 = x) : mSeq a b r = x := by rw [mSeq_app, h, andThen_ok, h2]
theorem seq_rt {a b : M Fl} {r r1 : VS} {d : D} (h : a r = .ok (.rt d) r1) : mSeq a b r = .ok (.rt d) r1 := by rw [mSeq_app, h, andThen_ok]
theorem if_tt {c : M Bool} {a b : M Fl} {r r1 : VS} {x : R Fl} (h : c r = .ok true r1) (h2 : a r1 = x) : mIfS c a b r = x := by rw [mIfS_app, h, andThen_ok, if_pos rfl, h2]
theorem if_ff {c : M Bool} {a b : M Fl} {r r1 : VS} {x : R Fl} (h : c r = .ok false r1) (h2 : b r1 = x) : mIfS c a b r = x := by rw [mIfS_app, h, andThen_ok, if_neg Bool.false_ne_true, h2]
theorem ret_ok {a : M D} {d : D} {r r1 : VS} (h : a r = .ok d r1) : mRet a r = .ok (.rt d) r1 := by rw [mRet_app, h, andThen_ok]
theorem bnd_nat {n : Nat} (h : n ≤ 1000000) : bnd (n : Int) = true := by
  unfold bnd
  have : (n : Int) ≤ 1000000 := by omega
  simp only [Bool.and_eq_true, decide_eq_true_eq]
  omega
/-! ### lists of numbers -/
@[simp] theorem Z186 (o : Bool) (l : List Int) : fListOf [.node o .lst (l.map D.int)] = some (.lst true (l.map D.int)) := by
  show (if (l.map D.int).all D.shr = true then _ else _) = _
  rw [if_pos (Z161 l)]
@[simp] theorem mSl_app (a : M D) (lo hi : M (Option Int)) (r : VS) : mSl a lo hi r = (a r).andThen fun d r => (lo r).andThen fun i r => (hi r).andThen fun j r => M.opt (fSl d i j) r := by
  simp only [mSl, bind_app]; congr 1; funext x r; rw [bind_app]; congr 1; funext x r; rw [bind_app]
@[simp] theorem mPart_app (a : M D) (r : VS) : mPart a r = (a r).andThen fun d r => (M.opt (int? d) r).andThen fun i r => .ok (some i) r := by
  simp only [mPart, bind_app]; congr 1; funext x r; rw [bind_app]; rfl
@[simp] theorem Z184 (a b : Bool) : fEq (.bl a) (.bl b) = some (.bl (a == b)) := by
  unfold fEq eqPy
  simp [D.py, SeqAt.shaped, PyData.canLay0, PyData.depth, PyData.eqv]
@[simp] theorem Z185 (a b : Bool) : fNe (.bl a) (.bl b) = some (.bl (!(a == b))) := by
  unfold fNe eqPy
  simp [D.py, SeqAt.shaped, PyData.canLay0, PyData.depth, PyData.eqv]
/-- the statements answer d -/
def Ret (b : M Fl) (r : VS) (d : D) : Prop := ∃ r', b r = .ok (.rt d) r'
theorem Ret.nx {a b : M Fl} {r : VS} (r1 : VS) {d : D} (h : a r = .ok .nx r1) (h2 : Ret b r1 d) : Ret (mSeq a b) r d := h2.elim fun r' e => ⟨r', seq_nx h e⟩
theorem Ret.left {a b : M Fl} {r : VS} {d : D} (h : Ret a r d) : Ret (mSeq a b) r d := h.elim fun r' e => ⟨r', seq_rt e⟩
theorem Ret.tt {c : M Bool} {a a' : M Fl} {r : VS} (r1 : VS) {d : D} (h : c r = .ok true r1) (h2 : Ret a r1 d) : Ret (mIfS c a a') r d := h2.elim fun r' e => ⟨r', if_tt h e⟩
theorem Ret.el {c : M Bool} {a a' : M Fl} {r : VS} (r1 : VS) {d : D} (h : c r = .ok false r1) (h2 : Ret a' r1 d) : Ret (mIfS c a a') r d := h2.elim fun r' e => ⟨r', if_ff h e⟩
theorem Ret.ret {a : M D} {r r1 : VS} {d : D} (h : a r = .ok d r1) : Ret (mRet a) r d := ⟨r1, ret_ok h⟩
end VL

/-! VL16: texts, in, max and min of a list, sorted. -/
namespace VL
open PySem PySem.Spec L2
section
variable {T : String → Option Addr} {io : Io} {X : Cx} {W : WX} {p p1 p2 : Bool} {pos : Pos}
def str? : D → Option Str
  | .leaf (.str x) => some x
  | _ => none
def strs? : List D → Option (List Str)
  | [] => some []
  | d :: ds => (str? d).bind fun x => (strs? ds).map (x :: ·)
def joinD (a : Str) (d : D) : Option D := (seq? d).bind fun ds => (strs? ds).bind fun ys => if (ys.map (·.length)).sum + ys.length * a.length ≤ 16777216 then some (.str (Txt.join a ys)) else none
/-- a.join(l) -/
def mJoin (o e : M D) : M D := M.bind o fun d => M.bind (M.opt (str? d)) fun a => M.bind e fun l => M.opt (joinD a l)
/-! ### in -/
/-! ### max(l), min(l), sorted(l) -/
/-! ### what is walked: a list, a tuple, a text -/
def items? : D → Option (List D)
  | .node _ .lst ds => some ds
  | .node _ .tup ds => some ds
  | .leaf (.str x) => some (x.cps.toList.map fun c => .str ⟨#[c]⟩)
  | _ => none
def iAny (a : M D) : M (List D) := M.bind a fun d => M.bind (M.opt (items? d)) fun ds => M.ret (D.frzL ds)
end
@[simp] theorem iAny_app (a : M D) (r : VS) : iAny a r = (a r).andThen fun d r => (M.opt (items? d) r).andThen fun ds r => .ok (D.frzL ds) r := by
  simp only [iAny, bind_app]; congr 1; funext x r; rw [bind_app]; rfl
@[simp] theorem items?_lst (o : Bool) (ds : List D) : items? (.node o .lst ds) = some ds := nr rfl
@[simp] theorem items?_tup (o : Bool) (ds : List D) : items? (.node o .tup ds) = some ds := nr rfl
@[simp] theorem mJoin_app (o e : M D) (r : VS) : mJoin o e r = (o r).andThen fun d r => (M.opt (str? d) r).andThen fun a r => (e r).andThen fun l r => M.opt (joinD a l) r := by
  simp only [mJoin, bind_app]; congr 1; funext x r; rw [bind_app]; congr 1; funext x r; rw [bind_app]
end VL

/-! VL17: sorted. -/
namespace VL
open PySem PySem.Spec L2
section
variable {T : String → Option Addr}
end
end VL

/-! VL18: methods of texts. -/
namespace VL
open PySem PySem.Spec L2
section
variable {T : String → Option Addr} {io : Io} {X : Cx} {W : WX} {p p1 p2 : Bool} {pos : Pos}
def mM1 (f : Str → D → Option D) (o e : M D) : M D := M.bind o fun d => M.bind (M.opt (str? d)) fun a => M.bind e fun l => M.opt (f a l)
/-! ### x.extend(e), e a list just made -/
theorem Rl.ownTop {K : PySem.W.Frag} {G : Gm} {F H : Hp} {r : VS} {t : List D} {σ : L2.St} {tv : List V} {es : List D} {v : V} (h : Rl K T G F r (.node true .lst es :: t) σ (v :: tv) H) : ∃ b zs, v = .ref b ∧ H b = some (.lst zs) ∧ es.length = zs.length ∧ Rl K T G F r (es ++ t) σ (zs ++ tv) H := by
  obtain ⟨⟨Ps, Pt, h1, h2, dj, hq⟩, b1, b2, b3, b4, b5, b6⟩ := h
  cases h2 with
  | @cons _ _ _ _ _ A B o g2 dj2 un =>
    cases o with
    | @own a dx k vs ds _ P0 hn hl n1 n2 f1 f2 hp =>
      obtain ⟨_, C, e1, e2⟩ := hn
      refine ⟨a, vs, rfl, e1, hl.length, ⟨Ps, fun b => P0 b ∨ B b, h1, OwL.join hl g2 (fun b p q => dj2 b ((hp b).mpr (.inr p)) q) fun _ => Iff.rfl, fun b p q => ?_, fun b p => ?_⟩, b1, b2, b3, b4, b5, b6⟩
      · rcases q with q | q
        · exact dj b p ((un b).mpr (.inl ((hp b).mpr (.inr q))))
        · exact dj b p ((un b).mpr (.inr q))
      · rcases p with p | p | p
        · exact hq b (.inl p)
        · exact hq b (.inr ((un b).mpr (.inl ((hp b).mpr (.inr p)))))
        · exact hq b (.inr ((un b).mpr (.inr p)))
end
@[simp] theorem mM1_app (f : Str → D → Option D) (o e : M D) (r : VS) : mM1 f o e r = (o r).andThen fun d r => (M.opt (str? d) r).andThen fun a r => (e r).andThen fun l r => M.opt (f a l) r := by
  simp only [mM1, bind_app]; congr 1; funext x r; rw [bind_app]; congr 1; funext x r; rw [bind_app]
end VL

/-! VL19: index of lists. -/
namespace VL
open PySem PySem.Spec L2
section
variable {T : String → Option Addr} {io : Io} {X : Cx} {W : WX} {p p1 p2 : Bool} {pos : Pos}
end
end VL

/-! VL20: the evaluator: what a data function does, read from the left, every continuation a name. -/
namespace VL
open PySem PySem.Spec L2
theorem sat_bind_eq {α β : Type} {m : M α} {k : α → M β} {r : VS} {ok : β → VS → Prop} {ex : String → VS → Prop} : (M.bind m k r).sat ok ex = (m r).sat (fun a r' => (k a r').sat ok ex) ex := by
  unfold M.bind
  cases m r <;> rfl
def optK {α : Type} (o : Option α) (r : VS) (K : α → VS → Prop) : Prop := match o with | some a => K a r | none => False
theorem Z40 {α : Type} {a : α} {r : VS} {K : α → VS → Prop} : optK (some a) r K = K a r := nr rfl
theorem Z38 {α : Type} {o : Option α} {r : VS} {K : α → VS → Prop} {ex : String → VS → Prop} : (M.opt o r).sat K ex = optK o r K := by cases o <;> rfl
theorem Z34 {α : Type} {a : α} {r : VS} {K : α → VS → Prop} {ex : String → VS → Prop} : (M.ret a r).sat K ex = K a r := nr rfl
theorem Z35 {α : Type} {a : α} {r : VS} {K : α → VS → Prop} {ex : String → VS → Prop} : (R.ok a r).sat K ex = K a r := nr rfl
theorem Z36 {α : Type} {c : String} {r : VS} {K : α → VS → Prop} {ex : String → VS → Prop} : (R.ex c r : R α).sat K ex = ex c r := nr rfl
theorem Z37 {α : Type} {p : Prop} [Decidable p] {x y : R α} {K : α → VS → Prop} {ex : String → VS → Prop} : (if p then x else y).sat K ex = if p then x.sat K ex else y.sat K ex := by split <;> rfl
theorem Z39 {b : Bool} {r : VS} {K : Unit → VS → Prop} {ex : String → VS → Prop} : (M.ck b r).sat K ex = (b = true ∧ K () r) := by
  cases b
  · exact (propext ⟨fun z => z.elim, fun z => nomatch z.1⟩)
  · exact (propext ⟨fun z => ⟨rfl, z⟩, fun z => z.2⟩)
theorem Z152 (r : VS) : slot? 0 (none :: r) = none := nr rfl
section
variable {r : VS} {ok : Fl → VS → Prop} {ex : String → VS → Prop} {K : D → VS → Prop} {KB : Bool → VS → Prop} {KL : List D → VS → Prop} {KO : Option Int → VS → Prop}
/-! names -/
def varK (r : VS) (i : Nat) (K : D → VS → Prop) (d : D) (_ : VS) : Prop := if d.shr = true then K d r else K d.frz (r.set i (some d.frz))
def moveK (i : Nat) (K : D → VS → Prop) (d : D) (r : VS) : Prop := K d (r.set i none)
theorem Z41 {i : Nat} : (mPeek i r).sat K ex = optK (slot? i r) r K := by unfold mPeek; cases slot? i r <;> rfl
theorem Z42 {i : Nat} : (mMove i r).sat K ex = optK (slot? i r) r (moveK i K) := by unfold mMove; cases slot? i r <;> rfl
theorem Z43 {i : Nat} : (mVar i r).sat K ex = optK (slot? i r) r (varK r i K) := by
  unfold mVar
  cases slot? i r with
  | none => rfl
  | some d =>
    show (if d.shr = true then R.ok d r else _ : R D).sat K ex = _
    rw [Z37]; rfl
theorem Z44 {r r' : VS} {i : Nat} {k : Kn} {ds : List D} : varK r i K (.node true k ds) r' = K (.node false k (D.frzL ds)) (r.set i (some (.node false k (D.frzL ds)))) := by
  show (if (false : Bool) = true then _ else _) = _
  rw [if_neg Bool.false_ne_true, Z156]
theorem Z45 {r r' : VS} {i : Nat} {d : D} (h : d.shr = true) : varK r i K d r' = K d r := if_pos h
theorem Z46 {i : Nat} {d : D} : moveK i K d r = K d (r.set i none) := nr rfl
/-! operators -/
def op1K (f : D → Option D) (K : D → VS → Prop) (x : D) (r : VS) : Prop := optK (f x) r K
def op2L (f : D → D → Option D) (b : M D) (K : D → VS → Prop) (ex : String → VS → Prop) (x : D) (r : VS) : Prop := (b r).sat (op1K (f x) K) ex
def opNK (f : List D → Option D) (K : D → VS → Prop) (x : List D) (r : VS) : Prop := optK (f x) r K
theorem Z47 {f : D → Option D} {a : M D} : (mOp1 f a r).sat K ex = (a r).sat (op1K f K) ex := by
  unfold mOp1; rw [sat_bind_eq]; congr 1; funext x r; exact Z38
theorem Z48 {f : D → D → Option D} {a b : M D} : (mOp2 f a b r).sat K ex = (a r).sat (op2L f b K ex) ex := by
  unfold mOp2; rw [sat_bind_eq]; congr 1; funext x r; exact Z47
theorem Z49 {a b : M D} : (mIx a b r).sat K ex = (a r).sat (op2L fIx b K ex) ex := Z48
theorem Z50 {f : List D → Option D} {a : M (List D)} : (mOpN f a r).sat K ex = (a r).sat (opNK f K) ex := by
  unfold mOpN; rw [sat_bind_eq]; congr 1; funext x r; exact Z38
theorem Z51 {f : D → Option D} {x : D} : op1K f K x r = optK (f x) r K := nr rfl
theorem Z52 {f : D → D → Option D} {b : M D} {x : D} : op2L f b K ex x r = (b r).sat (op1K (f x) K) ex := nr rfl
theorem Z53 {f : List D → Option D} {x : List D} : opNK f K x r = optK (f x) r K := nr rfl
/-! lists of expressions -/
def consR (d : D) (KL : List D → VS → Prop) (ds : List D) (r : VS) : Prop := KL (d :: ds) r
def consL (b : M (List D)) (KL : List D → VS → Prop) (ex : String → VS → Prop) (d : D) (r : VS) : Prop := (b r).sat (consR d KL) ex
theorem Z54 : (mNil r).sat KL ex = KL [] r := nr rfl
theorem Z55 {a : M D} {b : M (List D)} : (mCons a b r).sat KL ex = (a r).sat (consL b KL ex) ex := by
  unfold mCons; rw [sat_bind_eq]; congr 1; funext x r; rw [sat_bind_eq]; rfl
theorem Z56 {b : M (List D)} {d : D} : consL b KL ex d r = (b r).sat (consR d KL) ex := nr rfl
theorem Z57 {d : D} {ds : List D} : consR d KL ds r = KL (d :: ds) r := nr rfl
def lstK (K : D → VS → Prop) (ds : List D) (r : VS) : Prop := ds.length ≤ sizeLine ∧ K (.lst true ds) r
def tupK (K : D → VS → Prop) (ds : List D) (r : VS) : Prop := ds.length ≤ sizeLine ∧ K (.tup (!ds.all D.shr) ds) r
theorem Z58 {a : M (List D)} : (mLst a r).sat K ex = (a r).sat (lstK K) ex := by
  unfold mLst; rw [sat_bind_eq]; congr 1; funext x r; rw [sat_bind_eq, Z39]; simp only [decide_eq_true_eq]; rfl
theorem Z59 {a : M (List D)} : (mTup a r).sat K ex = (a r).sat (tupK K) ex := by
  unfold mTup; rw [sat_bind_eq]; congr 1; funext x r; rw [sat_bind_eq, Z39]; simp only [decide_eq_true_eq]; rfl
theorem Z60 {ds : List D} : lstK K ds r = (ds.length ≤ sizeLine ∧ K (.lst true ds) r) := nr rfl
theorem Z61 {ds : List D} : tupK K ds r = (ds.length ≤ sizeLine ∧ K (.tup (!ds.all D.shr) ds) r) := nr rfl
def shK (K : D → VS → Prop) (d : D) (r : VS) : Prop := d.shr = true ∧ K d r
theorem Z62 {a : M D} : (mSh a r).sat K ex = (a r).sat (shK K) ex := by
  unfold mSh; rw [sat_bind_eq]; congr 1; funext x r; rw [sat_bind_eq, Z39]; rfl
theorem Z63 {d : D} : shK K d r = (d.shr = true ∧ K d r) := nr rfl
/-! tests -/
def testK (KB : Bool → VS → Prop) (d : D) (r : VS) : Prop := optK d.bl? r KB
theorem Z64 {a : M D} : (mTest a r).sat KB ex = (a r).sat (testK KB) ex := by
  unfold mTest; rw [sat_bind_eq]; congr 1; funext x r; exact Z38
theorem Z65 {b : Bool} : testK KB (.bl b) r = KB b r := nr rfl
def notK (KB : Bool → VS → Prop) (b : Bool) (r : VS) : Prop := KB (!b) r
theorem Z66 {a : M Bool} : (mNotT a r).sat KB ex = (a r).sat (notK KB) ex := by
  unfold mNotT; rw [sat_bind_eq]; rfl
theorem Z67 {b : Bool} : notK KB b r = KB (!b) r := nr rfl
def andK (b : M Bool) (KB : Bool → VS → Prop) (ex : String → VS → Prop) (x : Bool) (r : VS) : Prop := if x = true then (b r).sat KB ex else KB false r
def orK (b : M Bool) (KB : Bool → VS → Prop) (ex : String → VS → Prop) (x : Bool) (r : VS) : Prop := if x = true then KB true r else (b r).sat KB ex
theorem Z68 {a b : M Bool} : (mAndT a b r).sat KB ex = (a r).sat (andK b KB ex) ex := by
  unfold mAndT; rw [sat_bind_eq]; congr 1; funext x r; cases x <;> rfl
theorem Z69 {a b : M Bool} : (mOrT a b r).sat KB ex = (a r).sat (orK b KB ex) ex := by
  unfold mOrT; rw [sat_bind_eq]; congr 1; funext x r; cases x <;> rfl
theorem Z70 {b : M Bool} {x : Bool} : andK b KB ex x r = if x = true then (b r).sat KB ex else KB false r := nr rfl
theorem Z71 {b : M Bool} {x : Bool} : orK b KB ex x r = if x = true then KB true r else (b r).sat KB ex := nr rfl
def isiK (f : String → Bool) (K : D → VS → Prop) (d : D) (r : VS) : Prop := noIns d = true ∧ K (.bl (f (tyD d))) r
theorem Z72 {f : String → Bool} {a : M D} : (mIsi f a r).sat K ex = (a r).sat (isiK f K) ex := by
  unfold mIsi; rw [sat_bind_eq]; congr 1; funext x r; rw [sat_bind_eq, Z39]; rfl
theorem Z73 {f : String → Bool} {d : D} : isiK f K d r = (noIns d = true ∧ K (.bl (f (tyD d))) r) := nr rfl
/-! slices -/
def slH (lo : Option Int) (d : D) (K : D → VS → Prop) (hi : Option Int) (r : VS) : Prop := optK (fSl d lo hi) r K
def slL (hi : M (Option Int)) (d : D) (K : D → VS → Prop) (ex : String → VS → Prop) (lo : Option Int) (r : VS) : Prop := (hi r).sat (slH lo d K) ex
def slD (lo hi : M (Option Int)) (K : D → VS → Prop) (ex : String → VS → Prop) (d : D) (r : VS) : Prop := (lo r).sat (slL hi d K ex) ex
theorem Z74 {a : M D} {lo hi : M (Option Int)} : (mSl a lo hi r).sat K ex = (a r).sat (slD lo hi K ex) ex := by
  unfold mSl; rw [sat_bind_eq]; congr 1; funext x r; rw [sat_bind_eq]; unfold slD; congr 1; funext y r; rw [sat_bind_eq]; unfold slL; congr 1; funext z r; exact Z38
theorem Z75 {lo hi : M (Option Int)} {d : D} : slD lo hi K ex d r = (lo r).sat (slL hi d K ex) ex := nr rfl
theorem Z76 {hi : M (Option Int)} {d : D} {lo : Option Int} : slL hi d K ex lo r = (hi r).sat (slH lo d K) ex := nr rfl
theorem Z77 {d : D} {lo hi : Option Int} : slH lo d K hi r = optK (fSl d lo hi) r K := nr rfl
def partK (KO : Option Int → VS → Prop) (d : D) (r : VS) : Prop := match d with | .leaf (.int i) => KO (some i) r | _ => False
theorem Z78 {a : M D} : (mPart a r).sat KO ex = (a r).sat (partK KO) ex := by
  unfold mPart; rw [sat_bind_eq]; congr 1; funext x r; rw [sat_bind_eq, Z38]
  cases x with
  | leaf s => cases s <;> rfl
  | node => rfl
theorem Z79 {i : Int} : partK KO (.int i) r = KO (some i) r := nr rfl
/-! calls -/
def RF.toF : RF → VS → R D := fun x r => match x with
  | .ok d [] => .ok d r
  | .ex c [] => .ex c r
  | _ => .no
def RF.toB : RF → VS → R D := fun x r => match x with
  | .ok (.leaf s) [] => .ok (.leaf s) r
  | .ex c [] => .ex c r
  | _ => .no
theorem Z80 (fn : Fn) (ds : List D) (r : VS) : runF fn ds r = (fn ds).toF r := by unfold runF RF.toF; rfl
theorem Z81 (fn : Fn) (ds : List D) (r : VS) : runB fn ds r = (fn ds).toB r := by
  unfold runB RF.toB
  cases fn ds with
  | no => rfl
  | ex c o => cases o <;> rfl
  | ok d o => cases o <;> cases d <;> rfl
theorem Z82 {d : D} : (RF.ok d []).toF r = .ok d r := nr rfl
theorem Z83 {s : Sc} : (RF.ok (.leaf s) []).toB r = .ok (.leaf s) r := nr rfl
theorem Z84 {c : String} : (RF.ex c []).toB r = .ex c r := nr rfl
def callFK (np : Nat) (fn : Fn) (K : D → VS → Prop) (ex : String → VS → Prop) (ds : List D) (r : VS) : Prop := ds.length = np ∧ ((fn (D.frzL ds)).toF r).sat K ex
def callBK (np : Nat) (fn : Fn) (K : D → VS → Prop) (ex : String → VS → Prop) (ds : List D) (r : VS) : Prop := ds.length = np ∧ ((fn (D.frzL ds)).toB r).sat K ex
theorem Z85 {np : Nat} {fn : Fn} {a : M (List D)} : (mCallF np fn a r).sat K ex = (a r).sat (callFK np fn K ex) ex := by
  unfold mCallF; rw [sat_bind_eq]; congr 1; funext x r; rw [sat_bind_eq, Z39]; simp only [decide_eq_true_eq, Z80]; rfl
theorem Z86 {np : Nat} {fn : Fn} {a : M (List D)} : (mCallB np fn a r).sat K ex = (a r).sat (callBK np fn K ex) ex := by
  unfold mCallB; rw [sat_bind_eq]; congr 1; funext x r; rw [sat_bind_eq, Z39]; simp only [decide_eq_true_eq, Z81]; rfl
theorem Z87 {np : Nat} {fn : Fn} {ds : List D} : callFK np fn K ex ds r = (ds.length = np ∧ ((fn (D.frzL ds)).toF r).sat K ex) := nr rfl
theorem Z88 {np : Nat} {fn : Fn} {ds : List D} : callBK np fn K ex ds r = (ds.length = np ∧ ((fn (D.frzL ds)).toB r).sat K ex) := nr rfl
/-! statements -/
def seqK (b : M Fl) (ok : Fl → VS → Prop) (ex : String → VS → Prop) : Fl → VS → Prop := fun f r => match f with | .nx => (b r).sat ok ex | f => ok f r
theorem Z89 {a b : M Fl} : (mSeq a b r).sat ok ex = (a r).sat (seqK b ok ex) ex := by
  unfold mSeq; rw [sat_bind_eq]; congr 1; funext f r; cases f <;> rfl
theorem Z90 {b : M Fl} : seqK b ok ex .nx r = (b r).sat ok ex := nr rfl
theorem Z91 {b : M Fl} {d : D} : seqK b ok ex (.rt d) r = ok (.rt d) r := nr rfl
def ifK (a b : M Fl) (ok : Fl → VS → Prop) (ex : String → VS → Prop) (x : Bool) (r : VS) : Prop := if x = true then (a r).sat ok ex else (b r).sat ok ex
theorem Z92 {c : M Bool} {a b : M Fl} : (mIfS c a b r).sat ok ex = (c r).sat (ifK a b ok ex) ex := by
  unfold mIfS; rw [sat_bind_eq]; congr 1; funext x r; cases x <;> rfl
theorem Z93 {a b : M Fl} {x : Bool} : ifK a b ok ex x r = if x = true then (a r).sat ok ex else (b r).sat ok ex := nr rfl
def asgK (g : Gt) (ok : Fl → VS → Prop) (d : D) (r : VS) : Prop := match g d r with | some r' => ok .nx r' | none => False
theorem Z94 {a : M D} {g : Gt} : (mAsg a g r).sat ok ex = (a r).sat (asgK g ok) ex := by
  unfold mAsg; rw [sat_bind_eq]; congr 1; funext d r; unfold mTo asgK; cases g d r <;> rfl
theorem Z95 {i : Nat} {d : D} : asgK (gPut i) ok d r = (i < r.length ∧ ok .nx (r.set i (some d))) := by
  unfold asgK gPut
  by_cases h : i < r.length
  · simp only [h, if_true, true_and]
  · simp only [h, if_false, false_and]
def drpK (ok : Fl → VS → Prop) (_ : D) (r : VS) : Prop := ok .nx r
def retK (ok : Fl → VS → Prop) (d : D) (r : VS) : Prop := ok (.rt d) r
theorem Z102 {a : M D} : (mDrop a r).sat ok ex = (a r).sat (drpK ok) ex := by unfold mDrop; rw [sat_bind_eq]; rfl
theorem Z103 {a : M D} : (mRet a r).sat ok ex = (a r).sat (retK ok) ex := by unfold mRet; rw [sat_bind_eq]; rfl
theorem Z104 {c : String} : (mRaise c r).sat ok ex = ex c r := nr rfl
theorem Z105 {d : D} : drpK ok d r = ok .nx r := nr rfl
theorem Z106 {d : D} : retK ok d r = ok (.rt d) r := nr rfl
def forK (g : Gt) (b : M Fl) (ok : Fl → VS → Prop) (ex : String → VS → Prop) (ds : List D) (r : VS) : Prop := (mForL g b ds r).sat ok ex
theorem Z107 {src : M (List D)} {g : Gt} {b : M Fl} : (mFor src g b r).sat ok ex = (src r).sat (forK g b ok ex) ex := by unfold mFor; rw [sat_bind_eq]; rfl
theorem Z108 {g : Gt} {b : M Fl} {ds : List D} : forK g b ok ex ds r = (mForL g b ds r).sat ok ex := nr rfl
def compK (own : List Nat) (g : Gt) (c : M Bool) (el : M D) (K : D → VS → Prop) (ex : String → VS → Prop) (ds : List D) (r : VS) : Prop := (lcRun own g c el ds r).sat K ex
theorem Z109 {own : List Nat} {src : M (List D)} {g : Gt} {c : M Bool} {el : M D} : (mComp own src g c el r).sat K ex = (src r).sat (compK own g c el K ex) ex := by unfold mComp; rw [sat_bind_eq]; rfl
theorem Z110 {own : List Nat} {g : Gt} {c : M Bool} {el : M D} {ds : List D} : compK own g c el K ex ds r = (lcRun own g c el ds r).sat K ex := nr rfl
def seqSK (KL : List D → VS → Prop) (d : D) (r : VS) : Prop := optK (seq? d) r fun ds r => KL (D.frzL ds) r
theorem Z111 {a : M D} : (iSeq a r).sat KL ex = (a r).sat (seqSK KL) ex := by
  unfold iSeq; rw [sat_bind_eq]; congr 1; funext d r; rw [sat_bind_eq, Z38]; rfl
theorem Z112 {o : Bool} {ds : List D} : seqSK KL (.node o .lst ds) r = KL (D.frzL ds) r := nr rfl
def rg1K (KL : List D → VS → Prop) (d : D) (r : VS) : Prop := match d with | .leaf (.int j) => bnd j = true ∧ KL (rangeL 0 j.toNat) r | _ => False
theorem Z113 {a : M D} : (iRg1 a r).sat KL ex = (a r).sat (rg1K KL) ex := by
  unfold iRg1; rw [sat_bind_eq]; congr 1; funext d r; rw [sat_bind_eq, Z38]
  cases d with
  | node => rfl
  | leaf s => cases s <;> first | rfl | (show ((M.bind _ _) r).sat KL ex = _; rw [sat_bind_eq, Z39]; rfl)
theorem Z114 {j : Int} : rg1K KL (.int j) r = (bnd j = true ∧ KL (rangeL 0 j.toNat) r) := nr rfl
/-! lists in slots -/
def appK (i : Nat) (K : D → VS → Prop) (d : D) (r : VS) : Prop := match ownL? i r with | some ds => ds.length < sizeLine ∧ K .non (r.set i (some (.lst true (ds ++ [d])))) | none => False
theorem Z115 {i : Nat} {a : M D} : (mAppend i a r).sat K ex = (isL i r = true ∧ (a r).sat (appK i K) ex) := by
  unfold mAppend
  cases isL i r with
  | false => exact propext ⟨fun z => z.elim, fun z => nomatch z.1⟩
  | true =>
    rw [if_pos rfl, sat_bind_eq]
    refine propext ⟨fun z => ⟨rfl, ?_⟩, fun z => ?_⟩
    · refine (show _ = _ from ?_).mp z
      congr 1; funext d r; unfold appK
      cases ownL? i r with
      | none => rfl
      | some ds =>
        show (if _ then _ else _ : R D).sat K ex = _
        by_cases hz : ds.length < sizeLine
        · rw [if_pos hz]; exact propext ⟨fun z => ⟨hz, z⟩, fun z => z.2⟩
        · rw [if_neg hz]; exact propext ⟨fun z => z.elim, fun z => (hz z.1).elim⟩
    · refine (show _ = _ from ?_).mpr z.2
      congr 1; funext d r; unfold appK
      cases ownL? i r with
      | none => rfl
      | some ds =>
        show (if _ then _ else _ : R D).sat K ex = _
        by_cases hz : ds.length < sizeLine
        · rw [if_pos hz]; exact propext ⟨fun z => ⟨hz, z⟩, fun z => z.2⟩
        · rw [if_neg hz]; exact propext ⟨fun z => z.elim, fun z => (hz z.1).elim⟩
/-! texts -/
/-! try -/
def tryAsX (i : Nat) (catch_ : String → Bool) (s : String → M Fl) (ok : Fl → VS → Prop) (ex : String → VS → Prop) (c : String) (r : VS) : Prop := if catch_ c = true then i < r.length ∧ (s c (r.set i none)).sat (fun f r => ok f (r.set i none)) (fun _ _ => False) else ex c r
theorem Z116 {i : Nat} {b : M Fl} {catch_ : String → Bool} {s : String → M Fl} : (mTryAs i b catch_ s r).sat ok ex = (b r).sat ok (tryAsX i catch_ s ok ex) := by
  unfold mTryAs
  cases b r with
  | ok f r => rfl
  | no => rfl
  | ex c r =>
    show (if _ then _ else _ : R Fl).sat ok ex = tryAsX i catch_ s ok ex c r
    unfold tryAsX
    by_cases h : catch_ c = true
    · rw [if_pos h, if_pos h]
      by_cases h2 : i < r.length
      · rw [if_pos h2]
        simp only [h2, true_and]
        cases s c (r.set i none) <;> rfl
      · rw [if_neg h2]
        exact propext ⟨fun z => z.elim, fun z => (h2 z.1).elim⟩
    · rw [if_neg h, if_neg h]; rfl
theorem Z117 {i : Nat} {catch_ : String → Bool} {s : String → M Fl} {c : String} : tryAsX i catch_ s ok ex c r = if catch_ c = true then i < r.length ∧ (s c (r.set i none)).sat (fun f r => ok f (r.set i none)) (fun _ _ => False) else ex c r := nr rfl
end
/-! ### functions -/
/-- the answer of a body -/
def ansK (P : RF → Prop) : Fl → VS → Prop := fun f _ => match f with | .rt d => P (.ok d []) | .nx => P (.ok .non []) | _ => False
def ansX (P : RF → Prop) : String → VS → Prop := fun c _ => P (.ex c [])
theorem fn_sat {n : Nat} {b : M Fl} {as : List D} {P : RF → Prop} (h : (b (as.map some ++ List.replicate (n - as.length) none)).sat (ansK P) (ansX P)) : P (fnM n [] b as) := by
  unfold fnM
  cases e : b (as.map some ++ List.replicate (n - as.length) none) with
  | no => rw [e] at h; exact h.elim
  | ex c r => rw [e] at h; exact h
  | ok f r =>
    rw [e] at h
    cases f with
    | nx => exact h
    | rt d => exact h
    | bk => exact h.elim
    | ct => exact h.elim
theorem Z146 {P : RF → Prop} {d : D} {r : VS} : ansK P (.rt d) r = P (.ok d []) := nr rfl
theorem Z147 {P : RF → Prop} {r : VS} : ansK P .nx r = P (.ok .non []) := nr rfl
theorem Z148 {P : RF → Prop} {c : String} {r : VS} : ansX P c r = P (.ex c []) := nr rfl
/-- the whole answer -/
def isR (x : RF) : RF → Prop := fun y => y = x
theorem fn_is {n : Nat} {b : M Fl} {as : List D} {x : RF} (h : (b (as.map some ++ List.replicate (n - as.length) none)).sat (ansK (isR x)) (ansX (isR x))) : fnM n [] b as = x := fn_sat (P := isR x) h
theorem Z149 {x y : RF} : isR x y = (y = x) := nr rfl
/-! ### loops -/
def loopOk (J : VS → Prop) (ok : Fl → VS → Prop) : Fl → VS → Prop := fun f r => match f with | .nx => J r | .ct => J r | .bk => ok .nx r | .rt d => ok (.rt d) r
theorem Z150 {J : VS → Prop} {ok : Fl → VS → Prop} {r : VS} : loopOk J ok .nx r = J r := nr rfl
theorem Z151 {J : VS → Prop} {ok : Fl → VS → Prop} {r : VS} {d : D} : loopOk J ok (.rt d) r = ok (.rt d) r := nr rfl
section
variable {g : Gt} {b : M Fl} {ok : Fl → VS → Prop} {ex : String → VS → Prop}
/-- over l, seen as data by e: I tells the state by what is left -/
theorem for_ind {α : Type} {e : α → D} (I : List α → VS → Prop) {l : List α} {r : VS} (h0 : I l r) (hs : ∀ x l' r, I (x :: l') r → ∃ r1, g (e x) r = some r1 ∧ (b r1).sat (loopOk (I l') ok) ex) (hd : ∀ r, I [] r → ok .nx r) : (mForL g b (l.map e) r).sat ok ex := by
  induction l generalizing r with
  | nil => exact hd r h0
  | cons x l ih =>
    obtain ⟨r1, e1, h1⟩ := hs x l r h0
    rw [List.map_cons, forL_cons]
    unfold mTo
    rw [e1]
    simp only [andThen_ok]
    cases e2 : b r1 with
    | no => rw [e2] at h1; exact h1.elim
    | ex c r2 => rw [e2] at h1; exact h1
    | ok f r2 =>
      rw [e2] at h1
      simp only [andThen_ok]
      cases f with
      | nx => exact ih h1
      | ct => exact ih h1
      | bk => exact h1
      | rt d => exact h1
/-- over range -/
theorem for_rg (I : Nat → VS → Prop) {lo : Int} {n : Nat} {r : VS} (h0 : I 0 r) (hs : ∀ i r, i < n → I i r → ∃ r1, g (.int (lo + (i : Nat))) r = some r1 ∧ (b r1).sat (loopOk (I (i + 1)) ok) ex) (hd : ∀ r, I n r → ok .nx r) : (mForL g b (rangeL lo n) r).sat ok ex := by
  have key : ∀ k i r, i + k = n → I i r → (mForL g b ((List.range' i k).map fun (i : Nat) => D.int (lo + (i : Nat))) r).sat ok ex := by
    intro k
    induction k with
    | zero => intro i r hk hi; exact hd r (by have : i = n := by omega
                                              rw [← this]; exact hi)
    | succ k ih =>
      intro i r hk hi
      obtain ⟨r1, e1, h1⟩ := hs i r (by omega) hi
      rw [List.range'_succ, List.map_cons, forL_cons]
      unfold mTo
      rw [e1]
      simp only [andThen_ok]
      cases e2 : b r1 with
      | no => rw [e2] at h1; exact h1.elim
      | ex c r2 => rw [e2] at h1; exact h1
      | ok f r2 =>
        rw [e2] at h1
        simp only [andThen_ok]
        cases f with
        | nx => exact ih _ _ (by omega) h1
        | ct => exact ih _ _ (by omega) h1
        | bk => exact h1
        | rt d => exact h1
  have := key n 0 r (by omega) h0
  unfold rangeL
  rw [List.range_eq_range']
  exact this
end
/-! ### comprehensions -/
/-- [f x for x in l if p x] -/
theorem comp_ind {α : Type} {e f : α → D} {p : α → Bool} {l : List α} {own : List Nat} {g : Gt} {c : M Bool} {el : M D} {r : VS} {K : D → VS → Prop} {ex : String → VS → Prop} (J : VS → Prop) (h0 : J (hide own r))
    (hs : ∀ x, x ∈ l → ∀ r, J r → ∃ r1, g (e x) r = some r1 ∧ (c r1).sat (fun b r2 => b = p x ∧ if b = true then (el r2).sat (fun y r3 => y = f x ∧ J (hide own r3)) (fun _ _ => False) else J (hide own r2)) (fun _ _ => False))
    (hl : l.length ≤ sizeLine) (hk : ∀ r1, J r1 → K (.lst true ((l.filter p).map f)) (unhide own r r1)) : (lcRun own g c el (l.map e) r).sat K ex := by
  have key : ∀ (l : List α) (acc : List D) (r : VS), J (hide own r) → (∀ x, x ∈ l → ∀ r, J r → ∃ r1, g (e x) r = some r1 ∧ (c r1).sat (fun b r2 => b = p x ∧ if b = true then (el r2).sat (fun y r3 => y = f x ∧ J (hide own r3)) (fun _ _ => False) else J (hide own r2)) (fun _ _ => False)) →
      acc.length + l.length ≤ sizeLine → ∃ r1, J r1 ∧ lcL own g c el (l.map e) acc r = .ok (acc ++ (l.filter p).map f) r1 := by
    intro l
    induction l with
    | nil => intro acc r h0 _ _; exact ⟨_, h0, by rw [List.map_nil, lcL_nil]; simp⟩
    | cons x l ih =>
      intro acc r h0 hs hl
      obtain ⟨r1, e1, h1⟩ := hs x List.mem_cons_self _ h0
      simp only [List.length_cons] at hl
      have step : lcL own g c el ((x :: l).map e) acc r = (M.bind (M.calm c) (fun b => if b = true then M.bind (M.calm el) fun y => M.bind (M.ck (decide (acc.length < sizeLine))) fun _ => lcL own g c el (l.map e) (acc ++ [y]) else lcL own g c el (l.map e) acc)) r1 := by
        show M.bind (mHide own) _ r = _
        rw [bind_app]
        show M.bind (mToU g (e x)) _ (hide own r) = _
        rw [bind_app]
        unfold mToU
        rw [e1]
        rfl
      rw [step, bind_app]
      unfold M.calm
      cases e2 : c r1 with
      | no => rw [e2] at h1; exact h1.elim
      | ex cc r2 => rw [e2] at h1; exact h1.elim
      | ok bb r2 =>
        rw [e2] at h1
        obtain ⟨hb, h1⟩ : bb = p x ∧ (if bb = true then (el r2).sat (fun y r3 => y = f x ∧ J (hide own r3)) (fun _ _ => False) else J (hide own r2)) := h1
        rw [andThen_ok]
        cases bb with
        | false =>
          rw [if_neg Bool.false_ne_true] at h1 ⊢
          obtain ⟨r3, j, e3⟩ := ih acc r2 h1 (fun x hx => hs x (List.mem_cons_of_mem _ hx)) (by omega)
          exact ⟨r3, j, by rw [e3, List.filter_cons, ← hb, if_neg Bool.false_ne_true]⟩
        | true =>
          rw [if_pos rfl] at h1 ⊢
          rw [bind_app]
          cases e3 : el r2 with
          | no => rw [e3] at h1; exact h1.elim
          | ex cc r3 => rw [e3] at h1; exact h1.elim
          | ok y r3 =>
            rw [e3] at h1
            obtain ⟨hy, hj⟩ : y = f x ∧ J (hide own r3) := h1
            subst hy
            simp only [andThen_ok, bind_app]
            rw [ck_dec (by omega), andThen_ok]
            obtain ⟨r4, j, e4⟩ := ih (acc ++ [f x]) r3 hj (fun x hx => hs x (List.mem_cons_of_mem _ hx)) (by simp; omega)
            exact ⟨r4, j, by rw [e4, List.filter_cons, ← hb, if_pos rfl]; simp⟩
  obtain ⟨r1, j, e1⟩ := key l [] r h0 hs (by simpa using hl)
  unfold lcRun
  rw [e1]
  exact hk r1 j
/-- [f x for x in l], the state as it was -/
theorem comp_map {α : Type} {e f : α → D} {l : List α} {own : List Nat} {g : Gt} {el : M D} {r : VS} {K : D → VS → Prop} {ex : String → VS → Prop}
    (hs : ∀ x, x ∈ l → ∃ r1, g (e x) (hide own r) = some r1 ∧ (el r1).sat (fun y r3 => y = f x ∧ hide own r3 = hide own r) (fun _ _ => False))
    (hl : l.length ≤ sizeLine) (hk : K (.lst true (l.map f)) (unhide own r (hide own r))) : (lcRun own g mYes el (l.map e) r).sat K ex := by
  refine comp_ind (f := f) (p := fun _ => true) (fun r1 => r1 = hide own r) rfl (fun x hx r1 e1 => ?_) hl (fun r1 e1 => ?_)
  · obtain ⟨r2, h1, h2⟩ := hs x hx
    refine ⟨r2, by rw [e1]; exact h1, ?_⟩
    show _ = _ ∧ _
    exact ⟨rfl, h2⟩
  · subst e1
    rw [show l.filter (fun _ => true) = l from List.filter_eq_self.mpr fun _ _ => rfl]
    exact hk
end VL

/-! VL21: the plain laws' tools: equality, texts, sizes, products. -/
namespace VL
open PySem PySem.Spec L2
/-! ### equality of plain data -/
mutual
/-- no flag within -/
def nbP : PyData → Bool
  | .bool _ => false
  | .list xs => nbL xs
  | .tuple xs => nbL xs
  | .dict _ => false
  | _ => true
def nbL : List PyData → Bool
  | [] => true
  | x :: xs => nbP x && nbL xs
end
mutual
theorem eqv_iff : ∀ {p q : PyData}, nbP p = true → nbP q = true → (PyData.eqv p q = true ↔ p = q)
  | .none, q, _, h => by cases q <;> simp_all [PyData.eqv, nbP]
  | .bool b, _, h, _ => by simp [nbP] at h
  | .int i, q, _, h => by cases q <;> simp_all [PyData.eqv, nbP]
  | .str x, q, _, h => by
    cases q <;> simp_all [PyData.eqv, nbP]
  | .list xs, q, h1, h => by
    cases q <;> simp [PyData.eqv, nbP] at h h1 ⊢
    exact eqvL_iff h1 h
  | .tuple xs, q, h1, h => by
    cases q <;> simp [PyData.eqv, nbP] at h h1 ⊢
    exact eqvL_iff h1 h
  | .dict _, _, h, _ => by simp [nbP] at h
theorem eqvL_iff : ∀ {p q : List PyData}, nbL p = true → nbL q = true → (PyData.eqvAll p q = true ↔ p = q)
  | [], [], _, _ => by simp [PyData.eqvAll]
  | [], _ :: _, _, _ => by simp [PyData.eqvAll]
  | _ :: _, [], _, _ => by simp [PyData.eqvAll]
  | x :: xs, y :: ys, h1, h2 => by
    simp only [nbL, Bool.and_eq_true] at h1 h2
    simp only [PyData.eqvAll, Bool.and_eq_true, List.cons.injEq]
    rw [eqv_iff h1.1 h2.1, eqvL_iff h1.2 h2.2]
end

/-- data that == takes: no flag within, at most n deep -/
def Okp (n : Nat) (d : D) : Prop := ∃ p, d.py = some p ∧ nbP p = true ∧ p.canLay0 = true ∧ p.depth ≤ n
def OkpL (n : Nat) (ds : List D) : Prop := ∃ p, D.pyL ds = some p ∧ nbL p = true ∧ PyData.canLayAll0 p = true ∧ PyData.depthAll p ≤ n
theorem okp_int {n : Nat} {i : Int} : Okp n (.int i) := ⟨_, rfl, rfl, rfl, Nat.zero_le _⟩
theorem okpL_nil {n : Nat} : OkpL n [] := ⟨[], by simp [D.pyL], rfl, rfl, Nat.zero_le _⟩
theorem okpL_cons {n : Nat} {d : D} {ds : List D} (h : Okp n d) (hs : OkpL n ds) : OkpL n (d :: ds) := by
  obtain ⟨p, e1, e2, e3, e4⟩ := h
  obtain ⟨q, f1, f2, f3, f4⟩ := hs
  exact ⟨p :: q, by simp [D.pyL, e1, f1], by simp [nbL, e2, f2], by simp [PyData.canLayAll0, e3, f3], by simp only [PyData.depthAll]; omega⟩
theorem okpL_of {n : Nat} : ∀ {ds : List D}, (∀ d ∈ ds, Okp n d) → OkpL n ds
  | [], _ => okpL_nil
  | d :: ds, h => okpL_cons (h d List.mem_cons_self) (okpL_of fun x hx => h x (List.mem_cons_of_mem _ hx))
theorem okp_lst {n : Nat} {o : Bool} {ds : List D} (h : OkpL n ds) : Okp (n + 1) (.node o .lst ds) := by
  obtain ⟨p, e1, e2, e3, e4⟩ := h
  exact ⟨.list p, by simp [D.py, e1], by simpa [nbP] using e2, by simpa [PyData.canLay0] using e3, by simp only [PyData.depth]; omega⟩
theorem okp_tup {n : Nat} {o : Bool} {ds : List D} (h : OkpL n ds) : Okp (n + 1) (.node o .tup ds) := by
  obtain ⟨p, e1, e2, e3, e4⟩ := h
  exact ⟨.tuple p, by simp [D.py, e1], by simpa [nbP] using e2, by simpa [PyData.canLay0] using e3, by simp only [PyData.depth]; omega⟩
theorem okp_map {α : Type} {n : Nat} {e : α → D} {l : List α} (h : ∀ x ∈ l, Okp n (e x)) : OkpL n (l.map e) := okpL_of fun d hd => by
  obtain ⟨x, hx, rfl⟩ := List.mem_map.mp hd
  exact h x hx
theorem Okp.mono {n m : Nat} {d : D} (h : Okp n d) (hm : n ≤ m) : Okp m d := by
  obtain ⟨p, e1, e2, e3, e4⟩ := h
  exact ⟨p, e1, e2, e3, Nat.le_trans e4 hm⟩
mutual
theorem py_frz : ∀ {d e : D} {p : PyData}, d.py = some p → e.py = some p → d.frz = e.frz
  | .leaf s, .leaf t, p, h1, h2 => by cases s <;> cases t <;> simp [D.py] at h1 h2 <;> subst h1 <;> simp at h2 <;> first | rfl | (subst h2; rfl)
  | .leaf s, .node o k ds, p, h1, h2 => by cases s <;> cases k <;> simp [D.py] at h1 h2 <;> subst h1 <;> simp at h2
  | .node o k ds, .leaf s, p, h1, h2 => by cases s <;> cases k <;> simp [D.py] at h1 h2 <;> subst h2 <;> simp at h1
  | .node o k ds, .node o' k' es, p, h1, h2 => by
    cases k <;> cases k' <;> simp [D.py] at h1 h2 <;> (obtain ⟨q, f1, rfl⟩ := h1) <;> simp at h2 <;> simp only [Z156] <;> rw [pyL_frz f1 h2]
theorem pyL_frz : ∀ {d e : List D} {p : List PyData}, D.pyL d = some p → D.pyL e = some p → D.frzL d = D.frzL e
  | [], [], _, _, _ => rfl
  | [], y :: ys, p, h1, h2 => by
    simp only [D.pyL] at h1 h2
    cases h1
    cases e1 : y.py <;> cases e2 : D.pyL ys <;> simp [e1, e2] at h2
  | x :: xs, [], p, h1, h2 => by
    simp only [D.pyL] at h1 h2
    cases h2
    cases e1 : x.py <;> cases e2 : D.pyL xs <;> simp [e1, e2] at h1
  | x :: xs, y :: ys, p, h1, h2 => by
    simp only [D.pyL] at h1 h2
    cases e1 : x.py with
    | none => simp [e1] at h1
    | some a =>
      cases e2 : D.pyL xs with
      | none => simp [e1, e2] at h1
      | some as =>
        cases e3 : y.py with
        | none => simp [e3] at h2
        | some b =>
          cases e4 : D.pyL ys with
          | none => simp [e3, e4] at h2
          | some bs =>
            simp [e1, e2] at h1
            simp [e3, e4] at h2
            subst h1
            simp at h2
            obtain ⟨rfl, rfl⟩ := h2
            simp only [Z154]
            rw [py_frz e1 e3, pyL_frz e2 e4]
end
mutual
theorem frz_py : ∀ {d e : D}, d.frz = e.frz → d.py = e.py
  | .leaf s, .leaf t, h => by simp at h; rw [h]
  | .leaf s, .node o k ds, h => by simp at h
  | .node o k ds, .leaf s, h => by simp at h
  | .node o k ds, .node o' k' es, h => by
    simp at h
    obtain ⟨rfl, h⟩ := h
    cases k <;> simp only [D.py] <;> rw [frzL_py h]
theorem frzL_py : ∀ {d e : List D}, D.frzL d = D.frzL e → D.pyL d = D.pyL e
  | [], [], _ => rfl
  | [], y :: ys, h => by simp at h
  | x :: xs, [], h => by simp at h
  | x :: xs, y :: ys, h => by
    simp at h
    simp only [D.pyL]
    rw [frz_py h.1, frzL_py h.2]
end
theorem eqPy_ok {n m : Nat} {d e : D} (hd : Okp n d) (he : Okp m e) {P : Prop} [Decidable P] (h : d.frz = e.frz ↔ P) (hn : n ≤ 64 := by decide) (hm : m ≤ 64 := by decide) : eqPy d e = some (decide P) := by
  obtain ⟨p, e1, e2, e3, e4⟩ := hd
  obtain ⟨q, f1, f2, f3, f4⟩ := he
  unfold eqPy
  rw [e1, f1]
  have s1 : SeqAt.shaped p = true := by unfold SeqAt.shaped; rw [e3]; simp; omega
  have s2 : SeqAt.shaped q = true := by unfold SeqAt.shaped; rw [f3]; simp; omega
  show (if SeqAt.shaped p = true ∧ SeqAt.shaped q = true then some (PyData.eqv p q) else none) = _
  rw [if_pos ⟨s1, s2⟩]
  refine congrArg some ?_
  have k : PyData.eqv p q = true ↔ P := by
    rw [eqv_iff e2 f2, ← h]
    refine ⟨fun z => py_frz e1 (z ▸ f1), fun z => ?_⟩
    have := frz_py z
    rw [e1, f1] at this
    exact Option.some.inj this
  by_cases hP : P
  · rw [decide_eq_true hP, k.mpr hP]
  · rw [decide_eq_false hP]
    cases hh : PyData.eqv p q
    · rfl
    · exact absurd (k.mp hh) hP
theorem fNe_ok {n m : Nat} {d e : D} (hd : Okp n d) (he : Okp m e) {P : Prop} [Decidable P] (h : d.frz = e.frz ↔ P) (hn : n ≤ 64 := by decide) (hm : m ≤ 64 := by decide) : fNe d e = some (.bl (!decide P)) := by
  unfold fNe; rw [eqPy_ok hd he h hn hm]; rfl
/-! ### texts: lists of code points -/
abbrev st (l : List Nat) : Str := ⟨l.toArray⟩
abbrev D.st (l : List Nat) : D := .str (VL.st l)
@[simp] theorem Z158 (ls : List (List Nat)) : D.frzL (ls.map D.st) = ls.map D.st := by
  rw [frzL_map, List.map_map]
  exact List.map_congr_left fun n _ => Z155 _
theorem shr_map {α : Type} {e : α → D} {l : List α} (h : ∀ x ∈ l, (e x).shr = true) : (l.map e).all D.shr = true := by
  rw [List.all_map, List.all_eq_true]
  exact h
theorem frzL_mapid {α : Type} {e : α → D} {l : List α} (h : ∀ x ∈ l, (e x).frz = e x) : D.frzL (l.map e) = l.map e := by
  rw [frzL_map, List.map_map]
  exact List.map_congr_left h
/-! ### lists of any items -/
theorem fAdd_lst {o o' : Bool} {a b : List D} (h : a.length + b.length ≤ sizeLine) (ha : a.all D.shr = true) (hb : b.all D.shr = true) : fAdd (.node o .lst a) (.node o' .lst b) = some (.lst true (a ++ b)) := if_pos ⟨h, ha, hb⟩
theorem cutD_map {α : Type} {e : α → D} (l : List α) (lo hi : Option Int) : cutD (l.map e) lo hi = ((l.drop (HT.sIx l.length 0 lo)).take (HT.sIx l.length l.length hi - HT.sIx l.length 0 lo)).map e := by
  unfold cutD
  rw [List.length_map, List.map_take, List.map_drop]
def cutA {α : Type} (l : List α) (lo hi : Option Int) : List α := (l.drop (HT.sIx l.length 0 lo)).take (HT.sIx l.length l.length hi - HT.sIx l.length 0 lo)
theorem fSl_map {α : Type} {e : α → D} {o : Bool} (l : List α) (lo hi : Option Int) (h : ∀ x ∈ l, (e x).shr = true) : fSl (.node o .lst (l.map e)) lo hi = some (.lst true ((cutA l lo hi).map e)) := by
  show (if (cutD (l.map e) lo hi).all D.shr = true then _ else _) = _
  rw [cutD_map, if_pos (shr_map fun x hx => h x (List.mem_of_mem_drop (List.mem_of_mem_take hx)))]
  rfl
theorem cutA_upto {α : Type} (l : List α) (k : Nat) : cutA l none (some (k : Int)) = l.take k := by
  unfold cutA
  rw [HT.sIx_none, HT.sIx_nat, List.drop_zero, Nat.sub_zero]
  by_cases h : k ≤ l.length
  · rw [Nat.min_eq_left h]
  · rw [Nat.min_eq_right (by omega), List.take_of_length_le (Nat.le_refl _), List.take_of_length_le (by omega)]
theorem cutA_from {α : Type} (l : List α) (k : Nat) : cutA l (some (k : Int)) none = l.drop k := by
  unfold cutA
  rw [HT.sIx_nat, HT.sIx_none, List.take_of_length_le (by rw [List.length_drop]; exact Nat.le_refl _)]
  by_cases h : k ≤ l.length
  · rw [Nat.min_eq_left h]
  · rw [Nat.min_eq_right (by omega), List.drop_of_length_le (Nat.le_refl _), List.drop_of_length_le (by omega)]
theorem fIx_map {α : Type} {e : α → D} {o : Bool} {l : List α} {i : Nat} {x : α} (h : l[i]? = some x) : fIx (.node o .lst (l.map e)) (.int i) = some (e x) := by
  rw [fIx_lst, atI_nat (by rw [List.length_map]; exact (List.getElem?_eq_some_iff.mp h).1), List.getElem?_map, h]; rfl
/-! ### written texts -/
theorem ofString_inj {a b : String} (h : Str.ofString a = Str.ofString b) : a = b := by
  rw [Str.ofString_eq_toList, Str.ofString_eq_toList] at h
  have h := congrArg (fun x : Str => x.cps.toList) h
  have key : ∀ l m : List Char, l.map Char.toNat = m.map Char.toNat → l = m := by
    intro l
    induction l with
    | nil => intro m h; cases m with | nil => rfl | cons _ _ => simp at h
    | cons x l ih => intro m h; cases m with
      | nil => simp at h
      | cons y m =>
        simp only [List.map_cons, List.cons.injEq] at h
        rw [ih m h.2, Char.ext (UInt32.toNat_inj.mp h.1)]
  have e := key _ _ h
  exact String.toList_inj.mp e
theorem fNe_self {n m : Nat} {d e : D} (hd : Okp n d) (he : Okp m e) (h : d.frz = e.frz) (hn : n ≤ 64 := by decide) (hm : m ≤ 64 := by decide) : fNe d e = some (.bl false) := by
  rw [fNe_ok hd he (P := True) ⟨fun _ => trivial, fun _ => h⟩ hn hm]; rfl
theorem Z187 (d : D) : fIs d .non = some (.bl (isNon d)) := nr rfl
theorem Z188 (d : D) : fIsNot d .non = some (.bl (!isNon d)) := nr rfl
theorem Z189 : isNon .non = true := nr rfl
/-! ### types -/
theorem Z190 (b : Bool) : tyD (.bl b) = "bool" := nr rfl
theorem Z191 (s : Sc) : noIns (.leaf s) = true := nr rfl
/-! ### places of a written list -/
theorem fIx0 {o : Bool} {a : D} {r : List D} : fIx (.node o .lst (a :: r)) (.int 0) = some a := by rw [fIx_lst]; exact (atI_nat (l := a :: r) (k := 0) (by simp)).trans rfl
theorem fIx1 {o : Bool} {a b : D} {r : List D} : fIx (.node o .lst (a :: b :: r)) (.int 1) = some b := by rw [fIx_lst]; exact (atI_nat (l := a :: b :: r) (k := 1) (by simp)).trans rfl
theorem fIx2 {o : Bool} {a b c : D} {r : List D} : fIx (.node o .lst (a :: b :: c :: r)) (.int 2) = some c := by rw [fIx_lst]; exact (atI_nat (l := a :: b :: c :: r) (k := 2) (by simp)).trans rfl
theorem fIx3 {o : Bool} {a b c d : D} {r : List D} : fIx (.node o .lst (a :: b :: c :: d :: r)) (.int 3) = some d := by rw [fIx_lst]; exact (atI_nat (l := a :: b :: c :: d :: r) (k := 3) (by simp)).trans rfl
/-! ### a, b = .. ; x[k] = .. -/
section
variable {r : VS} {ok : Fl → VS → Prop} {ex : String → VS → Prop}
def gasK (m : Gts) (ok : Fl → VS → Prop) (ds : List D) (r : VS) : Prop := match m ds r with | some r' => ok .nx r' | none => False
theorem Z96 {n : Nat} {m : Gts} {o : Bool} {ds : List D} : asgK (gTupM n m) ok (.node o .tup ds) r = (ds.length = n ∧ gasK m ok ds r) := by
  unfold asgK gTupM gasK tup?
  by_cases h : ds.length = n
  · simp only [h, if_true, Option.bind_some, true_and]
    all_goals (cases m ds r <;> rfl)
  · simp only [h, if_false, Option.bind_none, false_and]
theorem Z97 : gasK gNilM ok [] r = ok .nx r := nr rfl
theorem Z98 {i : Nat} {m : Gts} {d : D} {ds : List D} : gasK (gConsM (gPut i) m) ok (d :: ds) r = (i < r.length ∧ gasK m ok ds (r.set i (some d))) := by
  unfold gasK gConsM gPut
  by_cases h : i < r.length
  · simp only [h, if_true, Option.bind_some, true_and]
  · simp only [h, if_false, Option.bind_none, false_and]
def setR (i : Nat) (d : D) (ok : Fl → VS → Prop) (kd : D) (r : VS) : Prop := match ownL? i r, kd with
  | some ds, .leaf (.int j) => (match ixN ds.length j with | some n => ok .nx (r.set i (some (.lst true (ds.set n d)))) | none => False)
  | _, _ => False
def setL (i : Nat) (k : M D) (ok : Fl → VS → Prop) (ex : String → VS → Prop) (d : D) (r : VS) : Prop := isL i r = true ∧ (k r).sat (setR i d ok) ex
theorem Z99 {i : Nat} {a k : M D} : (mSetIx i a k r).sat ok ex = (a r).sat (setL i k ok ex) ex := by
  unfold mSetIx; rw [sat_bind_eq]; congr 1; funext d r
  rw [sat_bind_eq]
  unfold mIsL setL
  cases hL : isL i r with
  | false => exact propext ⟨fun z => z.elim, fun z => nomatch z.1⟩
  | true =>
    have key : ∀ kd r, ((M.bind (M.opt (int? kd)) fun j => setIxR i d j) r).sat ok ex = setR i d ok kd r := fun kd r => by
      rw [sat_bind_eq, Z38]
      unfold setR setIxR
      cases kd with
      | node => cases ownL? i r <;> rfl
      | leaf s =>
        cases s with
        | int j =>
          show ((match ownL? i r with | some ds => _ | none => _ : R Fl)).sat ok ex = _
          cases ownL? i r with
          | none => rfl
          | some ds => show ((match ixN ds.length j with | some n => _ | none => _ : R Fl)).sat ok ex = _; dsimp only; cases ixN ds.length j <;> rfl
        | _ => cases ownL? i r <;> rfl
    show ((M.bind k fun kd => M.bind (M.opt (int? kd)) fun j => setIxR i d j) r).sat ok ex = (true = true ∧ (k r).sat (setR i d ok) ex)
    rw [sat_bind_eq]
    refine propext ⟨fun z => ⟨rfl, ?_⟩, fun z => ?_⟩
    · exact (congrArg (fun K => (k r).sat K ex) (funext fun kd => funext fun r => key kd r)).mp z
    · exact (congrArg (fun K => (k r).sat K ex) (funext fun kd => funext fun r => key kd r)).mpr z.2
theorem Z100 {i : Nat} {k : M D} {d : D} : setL i k ok ex d r = (isL i r = true ∧ (k r).sat (setR i d ok) ex) := nr rfl
theorem Z101 {i : Nat} {d : D} {j : Int} : setR i d ok (.int j) r = match ownL? i r with | some ds => (match ixN ds.length j with | some n => ok .nx (r.set i (some (.lst true (ds.set n d)))) | none => False) | none => False := by
  unfold setR; cases ownL? i r <;> rfl
end
/-! ### sizes and products -/
theorem Z193 {n : Nat} (h : n ≤ 1000000) : n ≤ sizeLine := Nat.le_trans h (by decide)
theorem Z194 {n : Nat} (h : n < 1000000) : n < sizeLine := Nat.lt_of_lt_of_le h (by decide)
theorem Z177 {i j : Int} (h1 : -18446744073709551616 < i) (h2 : i < 18446744073709551616) : fMulI (.int i) (.int j) = some (.int (i * j)) := fMul_int i j (.inl ⟨h1, h2⟩)
theorem Z178 {i j : Int} (h1 : -18446744073709551616 < j) (h2 : j < 18446744073709551616) : fMulI (.int i) (.int j) = some (.int (i * j)) := fMul_int i j (.inr ⟨h1, h2⟩)
theorem Z179 : fPow (.int 10) (.int 18) = some (.int 1000000000000000000) := (fPow_int _ _ (by decide)).trans rfl
end VL

/-! VL22: instances: their fields, methods, making. -/
namespace VL
open PySem PySem.Spec L2

/-! ### a def that is never asked -/
section
variable {T : String → Option Addr} {io : Io} {X : Cx} {W : WX} {p p1 p2 : Bool} {pos : Pos}
end

/-! ### fields -/
def fldD : List String → List D → String → Option D
  | g :: gs, d :: ds, f => if g = f then some d else fldD gs ds f
  | _, _, _ => none
/-- x.f, x of a class of L -/
def fFld (L : List String) (f : String) : D → Option D
  | .node _ (.ins c fs) ds => if c ∈ L then fldD fs ds f else none
  | _ => none
theorem fldD_lk {K : PySem.W.Frag} {T : String → Option Addr} {F H : Hp} {f : String} : ∀ {fs : List String} {ds : List D} {vs : List V} {d : D}, fldD fs ds f = some d → LkL K T F H ds vs → ∃ v, (((fs.map fun x => Str.ofString x).zip vs).lookup (Str.ofString f)) = some v ∧ Lk K T F H d v
  | [], _, _, _, e, _ => by simp [fldD] at e
  | _ :: _, [], _, _, e, _ => by simp [fldD] at e
  | g :: gs, d0 :: ds, _, d, e, h => by
    cases h with
    | @cons _ v0 _ vs h1 h2 =>
      simp only [fldD] at e
      by_cases z : g = f
      · rw [if_pos z] at e
        cases e
        subst z
        exact ⟨v0, by simp [List.lookup], h1⟩
      · rw [if_neg z] at e
        obtain ⟨v, e1, e2⟩ := fldD_lk e h2
        refine ⟨v, ?_, e2⟩
        have nz : (Str.ofString f == Str.ofString g) = false := by
          cases hb : (Str.ofString f == Str.ofString g)
          · rfl
          · exact absurd (ofString_inj (eq_of_beq hb)) (fun w => z w.symm)
        simp [List.lookup, nz, e1]
def mFld (L : List String) (f : String) (a : M D) : M D := mOp1 (fFld L f) a
section
variable {T : String → Option Addr} {io : Io} {X : Cx} {W : WX} {p p1 p2 : Bool} {pos : Pos}
/-- what the classes of L must be -/
def FldOk (K : PySem.W.Frag) (T : String → Option Addr) (L : List String) (f : String) : Prop := ∀ c ∈ L, ∀ C, T c = some C → Cls K C ∧ NoAttr K C (Str.ofString f)
theorem qb_fld {e : Expr} {L : List String} {f : String} {a : M D} (hL : FldOk X.K T L f) (he : QB T io X W p e a) (hb : attributeBase e (Str.ofString f) X.env (eval e X.env) = eval e X.env := by rfl) : QB T io X W p (.Attribute e (Str.ofString f) pos) (mFld L f a) := fun G g =>
  PE.imp (pe_fld (he G g) hb) fun σ H Q ⟨F, r, t, tv, h1, h2⟩ => by
    refine ⟨F, r, t, tv, h1, (sat_bind h2).mono (fun d r1 q v F1 H1 s1 s2 h3 lk => ?_) fun _ _ q => q⟩
    obtain ⟨d', e1, q5⟩ := sat_opt q
    unfold fFld at e1
    split at e1
    · rename_i o c fs ds
      split at e1
      · rename_i hc
        obtain ⟨a', vs, rfl, hn, hl⟩ := lk.node h3.sub
        obtain ⟨_, C, dx, hT, hH, hd⟩ := hn
        obtain ⟨v', e2, lk2⟩ := fldD_lk e1 hl
        obtain ⟨k1, k2⟩ := hL c hc C hT
        exact ⟨a', C, dx, _, v', rfl, hH, k1, k2, e2, q5 v' F1 H1 s1 s2 h3 lk2⟩
      · cases e1
    · cases e1

/-! ### x.f = e -/
def putF? : List String → List D → String → D → List String × List D
  | g :: gs, d :: ds, f, y => if g = f then (g :: gs, y :: ds) else ((g :: (putF? gs ds f y).1), d :: (putF? gs ds f y).2)
  | _, _, f, y => ([f], [y])
theorem putF_zip {f : String} {y : V} {dy : D} : ∀ {fs : List String} {ds : List D} {vs : List V}, fs.length = vs.length → ds.length = vs.length →
    ∃ vs', putF (Str.ofString f) y ((fs.map fun x => Str.ofString x).zip vs) = ((putF? fs ds f dy).1.map fun x => Str.ofString x).zip vs' ∧ (putF? fs ds f dy).1.length = vs'.length ∧
      ∀ (K : PySem.W.Frag) (T : String → Option Addr), Sel K T (dy :: ds) (y :: vs) (putF? fs ds f dy).2 vs'
  | [], [], [], _, _ => ⟨[y], rfl, rfl, fun _ _ => .refl⟩
  | [], [], _ :: _, h, _ => by simp at h
  | [], _ :: _, [], _, h => by simp at h
  | [], _ :: _, _ :: _, h, _ => by simp at h
  | _ :: _, _, [], h, _ => by simp at h
  | _ :: _, [], _ :: _, _, h => by simp at h
  | g :: gs, d :: ds, v :: vs, h1, h2 => by
    by_cases z : g = f
    · subst z
      refine ⟨y :: vs, ?_, ?_, fun K T => ?_⟩
      · simp [putF, putF?]
      · simpa [putF?] using h1
      · simp only [putF?, if_true]
        exact Sel.trans .swap .tail
    · obtain ⟨vs', e1, e2, e3⟩ := putF_zip (f := f) (y := y) (dy := dy) (fs := gs) (ds := ds) (vs := vs) (by simpa using h1) (by simpa using h2)
      have nz : ¬ Str.ofString g = Str.ofString f := fun w => z (ofString_inj w)
      refine ⟨v :: vs', ?_, ?_, fun K T => ?_⟩
      · simp only [putF?, if_neg z, List.map_cons, List.zip_cons_cons, putF, if_neg nz]
        rw [e1]
      · simp only [putF?, if_neg z, List.length_cons, e2]
      · simp only [putF?, if_neg z]
        exact Sel.trans .swap (.cons (e3 K T))
/-- x.f = e, x a name -/
def setFldR (L : List String) (i : Nat) (f : String) (d : D) : M Fl := fun r => match slot? i r with
  | some (.node true (.ins c fs) ds) => if c ∈ L ∧ fs.length < 1000 then .ok .nx (r.set i (some (.node true (.ins c (putF? fs ds f d).1) (putF? fs ds f d).2))) else .no
  | _ => .no
def mSetFld (L : List String) (i : Nat) (f : String) (a : M D) : M Fl := M.bind a (setFldR L i f)
theorem qs_setFld {i : Nat} {x : Str} {L : List String} {f : String} {e : Expr} {np tpos : Pos} {a : M D} (hL : FldOk X.K T L f) (hN : X.N[i]? = some x) (hv : Vis X.env.scope x) (he : QE T io X W p e a) (hd : (x == ("__debug__" : Str)) = false := by decide) (hcd : (x == ("__classdict__" : Str)) = false := by decide)
    (hs : swapsWith e (some (.Attribute (.Name x np) (Str.ofString f) tpos)) pos.line X.env = pure false := by rfl) : QS T io X W (.Assign [.Attribute (.Name x np) (Str.ofString f) tpos] e pos) (mSetFld L i f a) := fun G g =>
  PS.imp (ps_fld (pe_var hN hv hd hcd) (he G g) hs) fun B σ H ⟨F, r, t, tv, h1, h2⟩ => by
    refine ⟨F, r, t, tv, h1, (sat_bind h2).mono (fun d r1 q v F1 H1 s1 z1 h3 => ?_) fun _ _ q => q.toP⟩
    unfold setFldR at q
    split at q
    · rename_i c fs ds e1
      split at q
      · rename_i hc
        obtain ⟨a', vs, C, dx, y1, y2, y3, y4, y5, y6⟩ := Rl.mutSlot (ext := [d]) (evs := [v]) rfl h3 e1
        obtain ⟨vs', w1, w2, w3⟩ := putF_zip (f := f) (y := v) (dy := d) (fs := fs) (ds := ds) (vs := vs) y2 y5
        obtain ⟨k1, k2⟩ := hL c hc.1 C y4.1
        refine ⟨_, y1, a', C, dx, _, rfl, y3, k1, k2, ?_, ?_⟩
        · have y2 : fs.length = vs.length := y2
          rw [List.length_zip, List.length_map, ← y2, Nat.min_self]; exact hc.2
        · rw [w1]
          exact q σ F1 _ s1 (y6 (.ins c (putF? fs ds f d).1) (putF? fs ds f d).2 vs' rfl w2 (w3 X.K T))
      · exact q.elim
    · exact q.elim

/-! ### methods -/
def tMethE (C : Addr) (m : Str) (sp : Sp) (E : L2.St → XK) (ta : TE) (t : TA) : TE := fun σ H Q => ta σ H fun x H1 => ∃ a dx fs, x = .ref a ∧ H1 a = some (.ins C dx fs) ∧ fs.lookup m = none ∧ t σ H1 fun vs H2 => sp (x :: vs) H2 Q (E σ)
theorem pe_methE {CX : CXT} {k : Nat} {C f : Addr} {m : Str} {fd : FuncData} {ps : List Str} {sp : Sp} {E : L2.St → XK} {o e : Expr} {es : List Expr} {ta : TE} {t : TA} {apos : Pos} {pl : Sem Bool} (he : PE X o ta) (c : Cls X.K C) (hm : Meth X.K C m f) (F : FnOk X.prog X.w X.K X.mg X.base CX k f fd ps sp) (hr : Room k X.A) (hb : Binds X.K fd ps []) (hx : ∀ σ, PassesAt CX X σ (E σ)) (ha : PA X (e :: es) t)
    (hst : starEach (e :: es) X.env = (false, eval e X.env) :: starEach es X.env := by rfl) (hpl : (backTo pos (starEach es X.env)).any (·.1) = false := by rfl)
    (ht : eval (.Call (.Attribute o m apos) (e :: es) [] pos) X.env = (do let ov ← eval o X.env; standAt apos.atName; let (g, first) ← holding [ov] (getMethod ov m pl); callWith pos g first (backTo pos (starEach (e :: es) X.env)) (backToKw pos (keywordEach [] X.env))) := by rfl) :
    PE X (.Call (.Attribute o m apos) (e :: es) [] pos) (tMethE C m sp E ta t) := ⟨fun pins s σ H Q I h => by
  refine PySem.W.methodCall_KW (pl := pl) (thn (he.run pins s σ H _ I h) fun u s1 z => ?_) ht
  obtain ⟨x, H1, I1, rx, a, dx, fs, ex, ea, l, q⟩ := z
  subst ex
  cases rx
  refine getmeth_ok I1 ea c hm l (PySem.W.callWith_K (first := [.ref a]) (h₀ := X.base) I.ok.mod.kin hm.kp (thn (ha.run pos pins s1 σ H1 _ I1 q) fun us s2 y => ?_) hst hpl)
  obtain ⟨vs, H2, I2, r, q2⟩ := y
  exact ⟨I2.kIn, run_fnS (us := .ref a :: us) (vs := .ref a :: vs) F hr hb (hx σ) I2 (.cons rfl r) q2⟩⟩
/-- the class of data -/
def isC (c m : String) : D → Bool
  | .node _ (.ins c' fs) _ => decide (c' = c) && fs.all fun f => !decide (f = m)
  | _ => false
theorem look_none {m : String} : ∀ {fs : List String} {vs : List V}, (fs.all fun f => !decide (f = m)) = true → ((fs.map fun x => Str.ofString x).zip vs).lookup (Str.ofString m) = none
  | [], _, _ => by simp
  | _ :: _, [], _ => by simp
  | g :: gs, v :: vs, h => by
    simp only [List.all_cons, Bool.and_eq_true, Bool.not_eq_true', decide_eq_false_iff_not] at h
    have nz : (Str.ofString m == Str.ofString g) = false := by
      cases hb : (Str.ofString m == Str.ofString g)
      · rfl
      · exact absurd (ofString_inj (eq_of_beq hb)) (fun w => h.1 w.symm)
    simp only [List.map_cons, List.zip_cons_cons, List.lookup, nz]
    exact look_none h.2
theorem isC_lk {K : PySem.W.Frag} {T : String → Option Addr} {F H : Hp} {c m : String} {C : Addr} {d : D} {v : V} (h : isC c m d = true) (hT : T c = some C) (lk : Lk K T F H d v) (s : Same F H) : ∃ a dx fs, v = .ref a ∧ H a = some (.ins C dx fs) ∧ fs.lookup (Str.ofString m) = none := by
  unfold isC at h
  split at h
  · rename_i o c' fs ds
    obtain ⟨h1, h2⟩ := Bool.and_eq_true_iff.mp h
    have h1 := of_decide_eq_true h1
    subst h1
    obtain ⟨a', vs, rfl, hn, hl⟩ := lk.node s
    obtain ⟨_, C', dx, hT', hH, hd⟩ := hn
    have e : C' = C := Option.some.inj (hT'.symm.trans hT)
    subst e
    exact ⟨a', dx, _, rfl, hH, look_none h2⟩
  · cases h
/-- o.m(..), all looked at: the answer a leaf -/
def mMethB (c m : String) (np : Nat) (fn : Fn) (o : M D) (args : M (List D)) : M D := M.bind o fun d => M.bind (M.ck (isC c m d)) fun _ => M.bind args fun ds => M.bind (M.ck (decide (ds.length + 1 = np))) fun _ => runB fn (d.frz :: D.frzL ds)
theorem qe_methB {c m : String} {C f : Addr} {k np : Nat} {fd : FuncData} {ps : List Str} {fn : Fn} {o e : Expr} {es : List Expr} {mo : M D} {a : M (List D)} {apos : Pos} {pl : Sem Bool} (hT : T c = some C) (hc : Cls X.K C) (hm : Meth X.K C (Str.ofString m) f)
    (F : FnOk X.prog X.w X.K X.mg X.base (L2.CX X.prog X.w) k f fd ps (spV X.K T np [] fn)) (hr : Room k X.A) (hb : Binds X.K fd ps []) (tk : Takes X W) (ho : QB T io X W p o mo) (ha : QAB T io X W true (e :: es) a)
    (hst : starEach (e :: es) X.env = (false, eval e X.env) :: starEach es X.env := by rfl) (hpl : (backTo pos (starEach es X.env)).any (·.1) = false := by rfl)
    (ht : eval (.Call (.Attribute o (Str.ofString m) apos) (e :: es) [] pos) X.env = (do let ov ← eval o X.env; standAt apos.atName; let (g, first) ← holding [ov] (getMethod ov (Str.ofString m) pl); callWith pos g first (backTo pos (starEach (e :: es) X.env)) (backToKw pos (keywordEach [] X.env))) := by rfl) :
    QE T io X W p (.Call (.Attribute o (Str.ofString m) apos) (e :: es) [] pos) (mMethB c m np fn mo a) := fun G g =>
  PE.imp (pe_methE (ho G g) hc hm F hr hb (fun σ => passAt tk σ) (ha G g) hst hpl ht) fun σ H Q ⟨F0, r, t, tv, h1, h2⟩ => by
    refine ⟨F0, r, t, tv, h1, (sat_bind h2).mono (fun d r1 q v F1 H1 s1 z1 h3 lk => ?_) fun _ _ q => q⟩
    obtain ⟨hi, q⟩ := sat_ck (sat_bind q)
    obtain ⟨a', dx, fs, rfl, hH, hl⟩ := isC_lk hi hT lk h3.sub
    refine ⟨a', dx, fs, rfl, hH, hl, F1, r1, t, tv, h3, (sat_bind q).mono (fun ds r2 q vs F2 H2 s2 z2 h4 lk2 => ?_) fun _ _ q => q.trans s1⟩
    obtain ⟨hn, q⟩ := sat_ck (sat_bind q)
    refine callB_imp (ds := d :: ds) (.cons (lk.mono s2 (z2 rfl)) lk2) (of_decide_eq_true hn) h4 (q.mono (fun d' r' q v H' z3 h5 => q v F2 H' (s1.trans s2) (fun z => ((z1 z).trans (z2 rfl)).trans z3) h5) fun _ _ q => q.trans (s1.trans s2))
/-- x.m(..), x a name, its data given up and given back -/
def mMeth (c m : String) (i : Nat) (fn : Fn) (cio : List Nat) (bk : List (Option Nat)) (args : M (List D)) : M D := fun r => match slot? i r with
  | some d => if isC c m d = true then mCall fn cio (some i :: bk) (mCons (mMove i) args) r else .no
  | none => .no
theorem qe_meth {c m : String} {C f : Addr} {k np i : Nat} {x : Str} {fd : FuncData} {ps : List Str} {fn : Fn} {cio : List Nat} {bk : List (Option Nat)} {e : Expr} {es : List Expr} {a : M (List D)} {xpos apos : Pos} {pl : Sem Bool} (hT : T c = some C) (hc : Cls X.K C) (hm : Meth X.K C (Str.ofString m) f)
    (F : FnOk X.prog X.w X.K X.mg X.base (L2.CX X.prog X.w) k f fd ps (spV X.K T np cio fn)) (hr : Room k X.A) (hb : Binds X.K fd ps []) (tk : Takes X W) (hnp : bk.length + 1 = np) (hN : X.N[i]? = some x) (hv : Vis X.env.scope x) (ha : QAI T io X W p bk (e :: es) a)
    (hd : (x == ("__debug__" : Str)) = false := by decide) (hcd : (x == ("__classdict__" : Str)) = false := by decide)
    (hst : starEach (e :: es) X.env = (false, eval e X.env) :: starEach es X.env := by rfl) (hpl : (backTo pos (starEach es X.env)).any (·.1) = false := by rfl)
    (ht : eval (.Call (.Attribute (.Name x xpos) (Str.ofString m) apos) (e :: es) [] pos) X.env = (do let ov ← eval (.Name x xpos) X.env; standAt apos.atName; let (g, first) ← holding [ov] (getMethod ov (Str.ofString m) pl); callWith pos g first (backTo pos (starEach (e :: es) X.env)) (backToKw pos (keywordEach [] X.env))) := by rfl) :
    QE T io X W false (.Call (.Attribute (.Name x xpos) (Str.ofString m) apos) (e :: es) [] pos) (mMeth c m i fn cio bk a) := fun G g =>
  PE.imp (pe_methE (pe_var hN hv hd hcd) hc hm F hr hb (fun σ => passAt tk σ) (ha G g) hst hpl ht) fun σ H Q ⟨F0, r, t, tv, h1, h2⟩ => by
    unfold mMeth at h2
    split at h2
    · rename_i d e1
      split at h2
      · rename_i hi
        obtain ⟨v, ev, h3⟩ := h1.take (slot?_eq e1)
        obtain ⟨a', dx, fs, rfl, hH, hl⟩ := isC_lk hi hT h3.top h3.sub
        refine ⟨_, ev, a', dx, fs, rfl, hH, hl, F0, r.set i none, d :: t, .ref a' :: tv, h3, ?_⟩
        have q := sat_bind h2
        have em : mMove i r = .ok d (r.set i none) := by unfold mMove; rw [e1]
        have q : (mCons (mMove i) a r).sat _ _ := q
        unfold mCons at q
        have q := sat_bind q
        rw [em] at q
        have q := sat_bind (show ((M.bind a fun ds => M.ret (d :: ds)) (r.set i none)).sat _ _ from q)
        refine q.mono (fun ds r2 q vs F2 H2 s2 z2 hl2 hlb hj h4 => ?_) fun c' r' q => fun C' F2 H2 z s3 h4 => q C' F2 H2 z s3 h4.drop
        refine call_imp (bk := some i :: bk) (ds := d :: ds) (vs := .ref a' :: vs) (by simp [hl2]) (by simp [hlb]; exact hnp) (fun j i' e => ?_) (Rl.lift hl2 h4) (R.sat.mono (x := mCall fn cio (some i :: bk) (M.ret (d :: ds)) r2) q (fun d' r' q v F' H' s5 h5 => q v F' H' (s2.trans s5) (fun z => nomatch z) h5) fun _ _ q => q.trans s2)
        cases j with
        | zero => simp at e; subst e; exact ⟨_, rfl, ev⟩
        | succ j => simpa using hj j i' (by simpa using e)
      · exact h2.elim
    · exact h2.elim
end
end VL

/-! VL23: making instances; in and len of instances; the evaluator's lemmas for instances. -/
namespace VL
open PySem PySem.Spec L2
section
variable {K : PySem.W.Frag} {T : String → Option Addr} {G : Gm} {F H : Hp} {r : VS} {t : List D} {σ : L2.St} {tv : List V}
/-- a new instance without fields -/
theorem Rl.allocIns {c : String} {C x dx : Addr} (hT : T c = some C) (hx : H x = none) (hd : H dx = none) (ne : dx ≠ x) (h : Rl K T G F r t σ tv H) :
    Rl K T G F r (.node true (.ins c []) [] :: t) σ (.ref x :: tv) (upd (upd H dx (.own x)) x (.ins C dx [])) := by
  obtain ⟨fx, gx⟩ := h.fresh hx
  obtain ⟨fd, gd⟩ := h.fresh hd
  obtain ⟨⟨Ps, Pt, h1, h2, dj, hq⟩, b1, b2, b3, b4, b5, b6⟩ := h
  have st : ∀ a, (∃ o, H a = some o) → upd (upd H dx (.own x)) x (.ins C dx []) a = H a := fun a ⟨o, e⟩ => by
    rw [upd_ne (ne_of_none e hx), upd_ne (ne_of_none e hd)]
  have s : Same H (upd (upd H dx (.own x)) x (.ins C dx [])) := fun a o e => by rw [st a ⟨o, e⟩]; exact e
  have nx : ∀ {Q : Ft}, (∀ a, Q a → F a = none ∧ ∃ o, H a = some o) → ¬ Q x ∧ ¬ Q dx := fun hQ => by
    constructor
    · intro z; obtain ⟨_, o, e⟩ := hQ x z; rw [hx] at e; cases e
    · intro z; obtain ⟨_, o, e⟩ := hQ dx z; rw [hd] at e; cases e
  have nS := nx fun a z => h1.at z
  have nT := nx fun a z => h2.at z
  refine ⟨⟨Ps, fun a => ((a = x ∨ a = dx) ∨ False) ∨ Pt a, h1.frame (Same.refl _) (fun a z => st a (h1.at z).2) fun a z => (h1.at z).1, ?_, ?_, ?_⟩, b1.trans s, fun a o e n => s _ _ (b2 a o e n), b3, b4, b5, tabs_same b6 s⟩
  · refine .cons (P1 := fun a => (a = x ∨ a = dx) ∨ False) (P2 := Pt) (.own (dx := dx) (vs := []) (P0 := fun _ => False) ⟨⟨rfl, trivial⟩, C, upd_same, hT, ?_, ne⟩ (.nil fun _ z => z) (fun z => z) (fun z => z) fx fd fun _ => Iff.rfl)
      (h2.frame (Same.refl _) (fun a z => st a (h2.at z).2) fun a z => (h2.at z).1) (fun a z q => ?_) fun _ => Iff.rfl
    · rw [upd_ne ne]; exact upd_same
    · rcases z with (rfl | rfl) | z
      · exact nT.1 q
      · exact nT.2 q
      · exact z
  · intro a z q
    rcases q with ((rfl | rfl) | q) | q
    · exact nS.1 z
    · exact nS.2 z
    · exact q
    · exact dj a z q
  · intro a z
    rcases z with z | ((rfl | rfl) | z) | z
    · exact hq a (.inl z)
    · exact gx
    · exact gd
    · exact z.elim
    · exact hq a (.inr z)
end
section
variable {T : String → Option Addr} {io : Io} {X : Cx} {W : WX} {p p1 p2 : Bool} {pos : Pos}
def tMakeE (C : Addr) (sp : Sp) (E : L2.St → XK) (t : TA) : TE := fun σ H Q => t σ H fun vs H1 => ∀ x dx, H1 x = none → H1 dx = none → dx ≠ x → sp (.ref x :: vs) (upd (upd H1 dx (.own x)) x (.ins C dx [])) (fun v H2 => v = .non ∧ Q (.ref x) H2) (E σ)
theorem pe_makeE0 {k : Nat} {C f : Addr} {x : Str} {pp : Pos} {fd : FuncData} {ps : List Str} {sp : Sp} (M : Mk X.K C f) (F : FnOk X.prog X.w X.K X.mg X.base (L2.CX X.prog X.w) k f fd ps sp) (hr : Room (k + 1) X.A) (hg : Gl X x) (hm : X.mg x = some (.ref C)) (hb : Binds X.K fd ps []) (tk : Takes X W)
    (hdb : (x == ("__debug__" : Str)) = false := by decide) : PE X (.Call (.Name x pp) [] [] pos) (tMakeE C sp (WE W) (fun _ H Q => Q [] H)) := ⟨fun pins s σ H Q I q => by
  refine wpAny_Call_Name_kw (ld_glob I hg hm (PySem.W.callWith_K0 I.kIn M.kp ?_) hdb)
  have hq := q (s.heap.objs.size + 1) s.heap.objs.size (I.hok.fresh (Nat.le_succ _)) (I.hok.fresh (Nat.le_refl _)) (Nat.ne_of_lt (Nat.lt_succ_self _))
  have I2 := Inv.made (C := C) I
  have r2 : Vals [V.ref (s.heap.objs.size + 1)] [Value.ref (s.heap.objs.size + 1)] := .cons rfl .nil
  have hl : [Value.ref (s.heap.objs.size + 1)].length = ps.length := by rw [← r2.length]; exact F.len _ _ _ _ hq
  have b := hb _ [Value.ref (s.heap.objs.size + 1)] I2.kIn (by rw [List.append_nil]; exact hl)
  rw [List.append_nil] at b
  have tk2 := passAt tk σ
  refine wpAny_call (make_map (f := f) I.kIn M.makes M.init (beq_iff_eq.mp M.fn) (codeAny_mono (F.run _ X.stack _ _ ⟨[Value.ref (s.heap.objs.size + 1)], []⟩ [Value.ref (s.heap.objs.size + 1)] _ _ (WE W σ) (hr.make C [] []) (I2.env0.make C [] []) b r2 hq) fun r s' hz => ?_))
  cases r with
  | error e => exact tk2 pins _ _ e s' I2 hz
  | ok fl =>
    cases fl with
    | ret u =>
      obtain ⟨v, H', I3, ru, ev, q3⟩ := I2.after hz
      subst ev
      exact ⟨ru, ⟨V.ref (s.heap.objs.size + 1), H', I3, rfl, q3⟩⟩
    | next => exact False.elim hz
    | brk => exact False.elim hz
    | cont => exact False.elim hz⟩
def RF.toM : RF → VS → R D := fun x r => match x with
  | .ok (.leaf .non) [d] => .ok d r
  | .ex c [_] => .ex c r
  | _ => .no
def runM (c : String) (fn : Fn) (ds : List D) : M D := fun r => (fn (.node true (.ins c []) [] :: ds)).toM r
/-- C(..) -/
def mMake (c : String) (np : Nat) (fn : Fn) (args : M (List D)) : M D := M.bind args fun ds => M.bind (M.ck (decide (ds.length + 1 = np))) fun _ => runM c fn (D.frzL ds)
theorem make_imp {G : Gm} {F H : Hp} {r : VS} {t : List D} {σ : L2.St} {tv : List V} {c : String} {C x dx : Addr} {ds : List D} {vs : List V} {fn : Fn} {np : Nat} {Q : VK} (hT : T c = some C) (hf : FzL X.K T F ds vs) (hn : ds.length + 1 = np) (h : Rl X.K T G F r t σ tv H) (hx : H x = none) (hd : H dx = none) (ne : dx ≠ x)
    (q : (runM c fn ds r).sat (fun d r' => ∀ v F' H', Same F F' → Rl X.K T G F' r' (d :: t) σ (v :: tv) H' → Q v H') (exP X.K T G W σ t tv F)) :
    spV X.K T np [0] fn (.ref x :: vs) (upd (upd H dx (.own x)) x (.ins C dx [])) (fun v H2 => v = .non ∧ Q (.ref x) H2) (WE W σ) := by
  have h2 := Rl.allocIns hT hx hd ne (h.pushL hf)
  obtain ⟨A, g1, after⟩ := Rl.split (ds := .node true (.ins c []) [] :: ds) (vs := .ref x :: vs) (by simp [hf.length]) h2
  refine ⟨F, _, A, g1, h2.sub, hn, ?_⟩
  unfold runM at q
  cases e : fn (.node true (.ins c []) [] :: ds) with
  | no => rw [e] at q; exact q
  | ok d os =>
    rw [e] at q
    have nn : ∀ d os, (RF.toM (.ok d os) r).sat (fun d r' => ∀ v F' H', Same F F' → Rl X.K T G F' r' (d :: t) σ (v :: tv) H' → Q v H') (exP X.K T G W σ t tv F) → ∃ d', d = .non ∧ os = [d'] := by
      intro d os z
      cases d with
      | node => exact z.elim
      | leaf s =>
        cases s with
        | non =>
          cases os with
          | nil => exact z.elim
          | cons a l => cases l with
            | nil => exact ⟨a, rfl, rfl⟩
            | cons _ _ => exact z.elim
        | _ => exact z.elim
    obtain ⟨d', rfl, rfl⟩ := nn d os q
    intro v F' H' vo P' w1 w2 w3
    have ev : ∃ u, vo = [u] := by
      cases vo with
      | nil => simp at w3
      | cons u l => cases l with
        | nil => exact ⟨u, rfl⟩
        | cons _ _ => simp at w3
    obtain ⟨u, rfl⟩ := ev
    have eu : u = .ref x := by simpa using w3
    subst eu
    have h5 := after F' H' _ _ P' w1 w2
    have hv : v = .non := by
      have h6 : Rl X.K T G F' r (d' :: .non :: t) σ (.ref x :: v :: tv) H' := h5
      exact lk_leaf h6.drop.top
    refine ⟨hv, q (.ref x) F' H' w2.fr ?_⟩
    have h6 : Rl X.K T G F' r (d' :: .non :: t) σ (.ref x :: v :: tv) H' := h5
    exact (Rl.swap h6).drop
  | ex cn os =>
    rw [e] at q
    have nn : ∃ d', os = [d'] := by
      cases os with
      | nil => exact q.elim
      | cons a l => cases l with
        | nil => exact ⟨a, rfl⟩
        | cons _ _ => exact q.elim
    obtain ⟨d', rfl⟩ := nn
    intro C' F' H' vo P' hT' w1 w2 w3
    have ev : ∃ u, vo = [u] := by
      cases vo with
      | nil => simp at w3
      | cons u l => cases l with
        | nil => exact ⟨u, rfl⟩
        | cons _ _ => simp at w3
    obtain ⟨u, rfl⟩ := ev
    have h5 : Rl X.K T G F' r (d' :: t) σ (u :: tv) H' := after F' H' _ _ P' w1 w2
    exact q C' F' H' hT' w2.fr h5.drop
theorem qe_make0 {c : String} {C f : Addr} {k np : Nat} {pp : Pos} {fd : FuncData} {ps : List Str} {fn : Fn} (hT : T c = some C) (mk : Mk X.K C f) (F : FnOk X.prog X.w X.K X.mg X.base (L2.CX X.prog X.w) k f fd ps (spV X.K T np [0] fn)) (hr : Room (k + 1) X.A) (hg : Gl X (Str.ofString c)) (hm : X.mg (Str.ofString c) = some (.ref C)) (hb : Binds X.K fd ps []) (tk : Takes X W)
    (hdb : ((Str.ofString c) == ("__debug__" : Str)) = false := by decide) : QE T io X W false (.Call (.Name (Str.ofString c) pp) [] [] pos) (mMake c np fn mNil) := fun G g => PE.imp (pe_makeE0 mk F hr hg hm hb tk hdb) fun σ H Q ⟨F0, r, t, tv, h1, h2⟩ => by
  intro x dx hx hd ne
  have q1 := sat_bind h2
  have q : ((M.bind (M.ck (decide (([] : List D).length + 1 = np))) fun _ => runM c fn (D.frzL [])) r).sat _ _ := q1
  obtain ⟨hn, q⟩ := sat_ck (sat_bind q)
  exact make_imp (ds := []) hT .nil (of_decide_eq_true hn) h1 hx hd ne (q.mono (fun d r' q v F' H' s3 h5 => q v F' H' s3 (fun z => nomatch z) h5) fun _ _ q => q)

/-! ### what the evaluator says of these -/
section
variable {r : VS} {ok : Fl → VS → Prop} {ex : String → VS → Prop} {K : D → VS → Prop}
theorem Z124 {L : List String} {f : String} {a : M D} : (mFld L f a r).sat K ex = (a r).sat (op1K (fFld L f) K) ex := Z47
theorem Z125 {L : List String} {f c : String} {o : Bool} {fs : List String} {ds : List D} : fFld L f (.node o (.ins c fs) ds) = if c ∈ L then fldD fs ds f else none := nr rfl
theorem Z126 {g f : String} {gs : List String} {d : D} {ds : List D} : fldD (g :: gs) (d :: ds) f = if g = f then some d else fldD gs ds f := nr rfl
def setFldK (L : List String) (i : Nat) (f : String) (ok : Fl → VS → Prop) (d : D) (r : VS) : Prop := match slot? i r with
  | some (.node true (.ins c fs) ds) => c ∈ L ∧ fs.length < 1000 ∧ ok .nx (r.set i (some (.node true (.ins c (putF? fs ds f d).1) (putF? fs ds f d).2)))
  | _ => False
theorem Z127 {L : List String} {i : Nat} {f : String} {a : M D} : (mSetFld L i f a r).sat ok ex = (a r).sat (setFldK L i f ok) ex := by
  unfold mSetFld; rw [sat_bind_eq]; congr 1; funext d r; unfold setFldR setFldK
  cases slot? i r with
  | none => rfl
  | some d' =>
    cases d' with
    | leaf => rfl
    | node o k ds =>
      cases o with
      | false => rfl
      | true =>
        cases k with
        | ins c fs =>
          show (if c ∈ L ∧ fs.length < 1000 then _ else _ : R Fl).sat ok ex = (c ∈ L ∧ fs.length < 1000 ∧ _)
          by_cases h : c ∈ L ∧ fs.length < 1000
          · rw [if_pos h]; exact propext ⟨fun z => ⟨h.1, h.2, z⟩, fun z => z.2.2⟩
          · rw [if_neg h]; exact propext ⟨fun z => z.elim, fun z => (h ⟨z.1, z.2.1⟩).elim⟩
        | _ => rfl
theorem Z128 {L : List String} {i : Nat} {f : String} {d : D} : setFldK L i f ok d r = match slot? i r with
  | some (.node true (.ins c fs) ds) => c ∈ L ∧ fs.length < 1000 ∧ ok .nx (r.set i (some (.node true (.ins c (putF? fs ds f d).1) (putF? fs ds f d).2)))
  | _ => False := nr rfl
theorem Z129 {f : String} {y : D} : putF? [] [] f y = ([f], [y]) := nr rfl
theorem Z130 {g f : String} {gs : List String} {d y : D} {ds : List D} : putF? (g :: gs) (d :: ds) f y = if g = f then (g :: gs, y :: ds) else ((g :: (putF? gs ds f y).1), d :: (putF? gs ds f y).2) := nr rfl
def methBR (np : Nat) (fn : Fn) (d : D) (K : D → VS → Prop) (ex : String → VS → Prop) (ds : List D) (r : VS) : Prop := ds.length + 1 = np ∧ ((fn (d.frz :: D.frzL ds)).toB r).sat K ex
def methBL (c m : String) (np : Nat) (fn : Fn) (args : M (List D)) (K : D → VS → Prop) (ex : String → VS → Prop) (d : D) (r : VS) : Prop := isC c m d = true ∧ (args r).sat (methBR np fn d K ex) ex
theorem Z131 {c m : String} {np : Nat} {fn : Fn} {o : M D} {args : M (List D)} : (mMethB c m np fn o args r).sat K ex = (o r).sat (methBL c m np fn args K ex) ex := by
  unfold mMethB; rw [sat_bind_eq]; congr 1; funext d r; rw [sat_bind_eq, Z39]; unfold methBL; congr 1; rw [sat_bind_eq]; congr 1; funext ds r; rw [sat_bind_eq, Z39]; simp only [decide_eq_true_eq, Z81]; rfl
theorem Z132 {c m : String} {np : Nat} {fn : Fn} {args : M (List D)} {d : D} : methBL c m np fn args K ex d r = (isC c m d = true ∧ (args r).sat (methBR np fn d K ex) ex) := rfl
theorem Z133 {np : Nat} {fn : Fn} {d : D} {ds : List D} : methBR np fn d K ex ds r = (ds.length + 1 = np ∧ ((fn (d.frz :: D.frzL ds)).toB r).sat K ex) := nr rfl
theorem Z134 {c m c' : String} {o : Bool} {fs : List String} {ds : List D} : isC c m (.node o (.ins c' fs) ds) = (decide (c' = c) && fs.all fun f => !decide (f = m)) := nr rfl
/-- behind a call that gives back -/
def RF.back (cio : List Nat) (bk : List (Option Nat)) : RF → VS → R D := fun x r => match x with
  | .ok d os => (match putB r (cio.map fun j => (bk[j]?).join) os with | some r' => .ok d r' | none => .no)
  | .ex c os => (match putB r (cio.map fun j => (bk[j]?).join) os with | some r' => .ex c r' | none => .no)
  | .no => .no
def callIoK (fn : Fn) (cio : List Nat) (bk : List (Option Nat)) (K : D → VS → Prop) (ex : String → VS → Prop) (ds : List D) (r : VS) : Prop := (RF.back cio bk (fn ds) r).sat K ex
theorem Z135 {fn : Fn} {cio : List Nat} {bk : List (Option Nat)} {a : M (List D)} : (mCall fn cio bk a r).sat K ex = (a r).sat (callIoK fn cio bk K ex) ex := by
  unfold mCall; rw [sat_bind_eq]; congr 1
theorem Z136 {fn : Fn} {cio : List Nat} {bk : List (Option Nat)} {ds : List D} : callIoK fn cio bk K ex ds r = (RF.back cio bk (fn ds) r).sat K ex := nr rfl
/-- self alone comes back -/
theorem Z144 {i : Nat} {bk : List (Option Nat)} {d o : D} (h : i < r.length) : RF.back [0] (some i :: bk) (.ok d [o]) r = .ok d (r.set i (some o)) := by
  show (match putB r [some i] [o] with | some r' => R.ok d r' | none => .no) = _
  simp [putB, h]
theorem Z145 {i : Nat} {bk : List (Option Nat)} {c : String} {o : D} (h : i < r.length) : (RF.back [0] (some i :: bk) (.ex c [o]) r : R D) = .ex c (r.set i (some o)) := by
  show (match putB r [some i] [o] with | some r' => (R.ex c r' : R D) | none => .no) = _
  simp [putB, h]
theorem Z137 {c m : String} {i : Nat} {fn : Fn} {cio : List Nat} {bk : List (Option Nat)} {args : M (List D)} : (mMeth c m i fn cio bk args r).sat K ex = optK (slot? i r) r (fun d r => isC c m d = true ∧ (mCons (mMove i) args r).sat (callIoK fn cio (some i :: bk) K ex) ex) := by
  unfold mMeth
  cases slot? i r with
  | none => rfl
  | some d =>
    show (if isC c m d = true then _ else _ : R D).sat K ex = (isC c m d = true ∧ _)
    cases isC c m d with
    | false => exact propext ⟨fun z => z.elim, fun z => nomatch z.1⟩
    | true => rw [if_pos rfl, Z135]; exact propext ⟨fun z => ⟨rfl, z⟩, fun z => z.2⟩
theorem Z138 {d : D} : (RF.ok .non [d]).toM r = .ok d r := nr rfl
def makeK (c : String) (np : Nat) (fn : Fn) (K : D → VS → Prop) (ex : String → VS → Prop) (ds : List D) (r : VS) : Prop := ds.length + 1 = np ∧ ((fn (.node true (.ins c []) [] :: D.frzL ds)).toM r).sat K ex
theorem Z139 {c : String} {np : Nat} {fn : Fn} {a : M (List D)} : (mMake c np fn a r).sat K ex = (a r).sat (makeK c np fn K ex) ex := by
  unfold mMake; rw [sat_bind_eq]; congr 1; funext ds r; rw [sat_bind_eq, Z39]; simp only [decide_eq_true_eq]; rfl
theorem Z140 {c : String} {np : Nat} {fn : Fn} {ds : List D} : makeK c np fn K ex ds r = (ds.length + 1 = np ∧ ((fn (.node true (.ins c []) [] :: D.frzL ds)).toM r).sat K ex) := nr rfl
/-- the answer of a body that gives back slot 0 -/
def ansK0 (P : RF → Prop) : Fl → VS → Prop := fun f r => match f with
  | .rt d => (match slot? 0 r with | some o => P (.ok d [o]) | none => False)
  | .nx => (match slot? 0 r with | some o => P (.ok .non [o]) | none => False)
  | _ => False
def ansX0 (P : RF → Prop) : String → VS → Prop := fun c r => match slot? 0 r with | some o => P (.ex c [o]) | none => False
theorem fn_sat0 {n : Nat} {b : M Fl} {as : List D} {P : RF → Prop} (h : (b (as.map some ++ List.replicate (n - as.length) none)).sat (ansK0 P) (ansX0 P)) : P (fnM n [0] b as) := by
  unfold fnM
  cases e : b (as.map some ++ List.replicate (n - as.length) none) with
  | no => rw [e] at h; exact h.elim
  | ex c r =>
    rw [e] at h
    have h : ansX0 P c r := h
    unfold ansX0 at h
    dsimp only [outs?] at h ⊢
    cases e2 : slot? 0 r with
    | none => rw [e2] at h; exact h.elim
    | some o => rw [e2] at h; exact h
  | ok f r =>
    rw [e] at h
    have h : ansK0 P f r := h
    unfold ansK0 at h
    cases f with
    | nx =>
      dsimp only [outs?] at h ⊢
      cases e2 : slot? 0 r with
      | none => rw [e2] at h; exact h.elim
      | some o => rw [e2] at h; exact h
    | rt d =>
      dsimp only [outs?] at h ⊢
      cases e2 : slot? 0 r with
      | none => rw [e2] at h; exact h.elim
      | some o => rw [e2] at h; exact h
    | bk => exact h.elim
    | ct => exact h.elim
theorem fn_is0 {n : Nat} {b : M Fl} {as : List D} {x : RF} (h : (b (as.map some ++ List.replicate (n - as.length) none)).sat (ansK0 (isR x)) (ansX0 (isR x))) : fnM n [0] b as = x := fn_sat0 (P := isR x) h
theorem Z141 {P : RF → Prop} {d o : D} {r : VS} : ansK0 P (.rt d) (some o :: r) = P (.ok d [o]) := nr rfl
theorem Z142 {P : RF → Prop} {o : D} {r : VS} : ansK0 P .nx (some o :: r) = P (.ok .non [o]) := nr rfl
theorem Z143 {P : RF → Prop} {c : String} {o : D} {r : VS} : ansX0 P c (some o :: r) = P (.ex c [o]) := nr rfl
end
end
end VL

/-! VL24: facts of classes. -/
namespace VL
open PySem PySem.Spec L2
theorem fldOk_nil {K : PySem.W.Frag} {T : String → Option Addr} {f : String} : FldOk K T [] f := fun c hc => by simp at hc
theorem fldOk_cons {K : PySem.W.Frag} {cs : List String} {c f : String} {L : List String} (h1 : Cls K (He.ga K (Str.ofString c))) (h2 : NoAttr K (He.ga K (Str.ofString c)) (Str.ofString f)) (h : FldOk K (clT cs K) L f) : FldOk K (clT cs K) (c :: L) f := fun x hx C hT => by
  rcases List.mem_cons.mp hx with rfl | hx
  · obtain ⟨_, rfl⟩ := clT_of hT
    exact ⟨h1, h2⟩
  · exact h x hx C hT
end VL

/-! VL25: x in o, o of an own class; isinstance(x, C), C an own class. -/
namespace VL
open PySem PySem.Spec L2
/-! ### x in o -/
section
variable {X : Cx} {CX : CXT} {k : Nat} {C f : Addr} {fd : FuncData} {ps : List Str} {sp : Sp} {E : L2.St → XK} {a b : Expr} {ta tb : TE}
end
section
variable {T : String → Option Addr} {io : Io} {X : Cx} {W : WX} {p p1 p2 : Bool} {pos : Pos}
/-! ### isinstance(x, C) -/
end
section
variable {r : VS} {ex : String → VS → Prop} {K : D → VS → Prop}
end
end VL

/-! VL26: a method called with keywords; all arguments leaves. -/
namespace VL
open PySem PySem.Spec L2
section
variable {X : Cx} {CX : CXT} {k n : Nat} {C f : Addr} {m : Str} {fd : FuncData} {ps ks : List Str} {sp : Sp} {o e : Expr} {es : List Expr} {kws : List Keyword} {ta : TE} {t tk : TA} {apos pos : Pos} {pl : Sem Bool} {g : List Value → List Value → List Value} {gV : List V → List V → List V}
theorem run_fnNS {σ : L2.St} {E : XK} {pins : List (Addr × Obj)} {H : Hp} {s : Shared} {Q : VK} {us ws : List Value} {vs zs : List V} (F : FnOk X.prog X.w X.K X.mg X.base CX k f fd ps sp) (hr : Room k X.A) (hb : KBn X.K fd ps n ks g gV) (hx : PassesAt CX X σ E)
    (I : Inv X pins σ H s) (r : Vals vs us) (rz : Vals zs ws) (l1 : vs.length = n) (l2 : zs.length = ks.length) (h : sp (gV vs zs) H Q E) : wpAny (model X.prog X.w) X.A (call (.ref f) us (ks.zip ws)) (EP X pins σ Q) X.xe s := by
  have r2 := hb.rel r rz
  refine wpAny_call (codeAny_mono (F.run X.A X.stack s H ⟨us, ks.zip ws⟩ (g us ws) (gV vs zs) Q E hr I.env0 (hb.to s us ws I.kIn (r.length.symm.trans l1) (rz.length.symm.trans l2)) r2 h) fun r s' hq => ?_)
  cases r with
  | error e => exact hx pins H s e s' I hq
  | ok fl =>
    cases fl with
    | ret u => exact I.after hq
    | next => exact False.elim hq
    | brk => exact False.elim hq
    | cont => exact False.elim hq
def tMethK (C : Addr) (m : Str) (n nk : Nat) (sp : Sp) (gV : List V → List V → List V) (E : L2.St → XK) (ta : TE) (t tk : TA) : TE := fun σ H Q => ta σ H fun x H1 => ∃ a dx fs, x = .ref a ∧ H1 a = some (.ins C dx fs) ∧ fs.lookup m = none ∧ t σ H1 fun vs H2 => tk σ H2 fun zs H3 => vs.length + 1 = n ∧ zs.length = nk ∧ sp (gV (x :: vs) zs) H3 Q (E σ)
theorem pe_methK {E : L2.St → XK} (he : PE X o ta) (c : Cls X.K C) (hm : Meth X.K C m f) (F : FnOk X.prog X.w X.K X.mg X.base CX k f fd ps sp) (hr : Room k X.A) (hb : KBn X.K fd ps n ks g gV) (hx : ∀ σ, PassesAt CX X σ (E σ)) (ha : PA X (e :: es) t) (hk : PK X kws tk)
    (hall : (backToKw pos (keywordEach kws X.env)).all (·.1.isSome) = true := by rfl) (hks : (backToKw pos (keywordEach kws X.env)).filterMap (·.1) = ks := by rfl)
    (hst : starEach (e :: es) X.env = (false, eval e X.env) :: starEach es X.env := by rfl) (hpl : ((backTo pos (starEach (e :: es) X.env)).any (·.1) || (backToKw pos (keywordEach kws X.env)).any (·.1.isNone)) = false := by rfl)
    (ht : eval (.Call (.Attribute o m apos) (e :: es) kws pos) X.env = (do let ov ← eval o X.env; standAt apos.atName; let (g, first) ← holding [ov] (getMethod ov m pl); callWith pos g first (backTo pos (starEach (e :: es) X.env)) (backToKw pos (keywordEach kws X.env))) := by rfl) :
    PE X (.Call (.Attribute o m apos) (e :: es) kws pos) (tMethK C m n ks.length sp gV E ta t tk) := ⟨fun pins s σ H Q I h => by
  refine PySem.W.methodCall_KW (pl := pl) (thn (he.run pins s σ H _ I h) fun u s1 z => ?_) ht
  obtain ⟨x, H1, I1, rx, a, dx, fs, ex, ea, l, q⟩ := z
  subst ex
  cases rx
  refine getmeth_ok I1 ea c hm l (PySem.W.callWith_KW (first := [.ref a]) (h₀ := X.base) I.ok.mod.kin hm.kp hall (thn (ha.run pos pins s1 σ H1 _ I1 q) fun us s2 y => ?_) hpl hst)
  obtain ⟨vs, H2, I2, r, q2⟩ := y
  refine thn (hk.run pos pins s2 σ H2 _ I2 q2) fun ws s3 ⟨zs, H3, I3, rz, l1, l2, q3⟩ => ⟨I3.kIn, ?_⟩
  rw [hks]
  exact run_fnNS (us := .ref a :: us) (vs := .ref a :: vs) F hr hb (hx σ) I3 (.cons rfl r) rz (by simpa using l1) l2 q3⟩
end
section
variable {K : PySem.W.Frag} {x qual : Str} {params : Arguments} {body : List Stmt} {scope : Scope} {kws : List (Str × V)} {f : Addr} {fd : FuncData} {ps : List Str}
/-- the keywords fill the last parameters, in order -/
theorem FunD_kbn0 (F : FunD K x qual params body scope [] kws f fd) (n : Nat) (ks : List Str)
    (h : ∀ (kV doc pm : Value) (an : Option Addr) (cdv ct : Value) (us ws : List Value), us.length = n → ws.length = ks.length → bindArgs (PySem.W.fnOf x qual params body scope .none kV doc pm an cdv ct) ⟨us, ks.zip ws⟩ = pure (ps.zip (us ++ ws))) :
    KBn K fd ps n ks (fun us ws => us ++ ws) (fun vs zs => vs ++ zs) := by
  obtain ⟨oc, od, dV, kV, doc, pm, an, cdv, ct, osl, rfl, lk, hcd, hD, hK⟩ := F.ex
  rcases hD with ⟨_, rfl⟩ | ⟨e, _⟩
  · exact ⟨fun s us ws X l1 l2 => .of_eq (h kV doc pm an cdv ct us ws l1 l2), fun r1 r2 => r1.append r2⟩
  · exact absurd rfl e
end
section
variable (T : String → Option Addr) (io : Io) (X : Cx) (W : WX)
def QKB (kws : List Keyword) (m : M (List D)) : Prop := ∀ G, Pins io G → PK X kws (tAB X.K T G W true m)
end
def isLf : D → Bool
  | .leaf _ => true
  | _ => false
def mMethK (c m : String) (i : Nat) (fn : Fn) (cio : List Nat) (np nk : Nat) (args kws : M (List D)) : M D := fun r => match slot? i r with
  | some d => if isC c m d = true then (M.bind args fun ds => M.bind kws fun es => M.bind (M.ck (decide (ds.length + 1 = np) && (decide (es.length = nk) && (ds ++ es).all isLf))) fun _ => fun r => match slot? i r with
    | some d => mCall fn cio (some i :: List.replicate (ds ++ es).length none) (M.ret (d :: (ds ++ es))) (r.set i none)
    | none => .no) r else .no
  | none => .no
theorem lfs_fz {K : PySem.W.Frag} {T : String → Option Addr} {F H : Hp} : ∀ {ds : List D} {vs : List V}, ds.all isLf = true → LkL K T F H ds vs → FzL K T F ds vs
  | [], _, _, h => by cases h; exact .nil
  | d :: ds, _, hl, h => by
    cases h with
    | cons h1 h2 =>
      simp only [List.all_cons, Bool.and_eq_true] at hl
      refine .cons ?_ (lfs_fz hl.2 h2)
      cases d with
      | leaf s => cases h1 with | leaf z => exact .leaf z
      | node => cases hl.1
section
variable {T : String → Option Addr} {io : Io} {X : Cx} {W : WX} {p p1 p2 : Bool} {pos : Pos}
theorem qkb_nil : QKB T io X W [] mNil := fun G g => ⟨fun pos pins s σ H Q I ⟨F, r, t, tv, h1, h2⟩ => pk_nil.run pos pins s σ H Q I (h2 [] F H (Same.refl _) (fun _ => Same.refl _) h1 .nil)⟩
theorem qkb_cons {nm : Option Str} {e : Expr} {kpos : Pos} {kws : List Keyword} {a : M D} {b : M (List D)} (ha : QB T io X W true e a) (hb : QKB T io X W kws b) : QKB T io X W (⟨nm, e, kpos⟩ :: kws) (mCons a b) :=
  fun G g => ⟨fun pos pins s σ H Q I ⟨F, r, t, tv, h1, h2⟩ => (pk_cons (ha G g) (hb G g)).run pos pins s σ H Q I (by
    refine ⟨F, r, t, tv, h1, (sat_bind h2).mono (fun d r1 q v F1 H1 s1 s2 h3 lk => ?_) fun _ _ q => q⟩
    refine ⟨F1, r1, t, tv, h3, (sat_bind q).mono (fun ds r2 q vs F2 H2 s3 s4 h4 lks => ?_) fun c r' q => q.trans s1⟩
    exact q (v :: vs) F2 H2 (s1.trans s3) (fun z => (s2 z).trans (s4 rfl)) h4 (.cons (lk.mono s3 (s4 rfl)) lks))⟩
theorem LkL_append {K : PySem.W.Frag} {F H : Hp} : ∀ {ds es : List D} {vs ws : List V}, LkL K T F H ds vs → LkL K T F H es ws → LkL K T F H (ds ++ es) (vs ++ ws)
  | [], _, _, _, h, h' => by cases h; exact h'
  | _ :: _, _, _, _, h, h' => by cases h with | cons a b => exact .cons a (LkL_append b h')
theorem qe_methK {c m : String} {C f : Addr} {k np n i : Nat} {x : Str} {fd : FuncData} {ps ks : List Str} {fn : Fn} {cio : List Nat} {e : Expr} {es : List Expr} {kws : List Keyword} {a b : M (List D)} {xpos apos : Pos} {pl : Sem Bool} (hT : T c = some C) (hc : Cls X.K C) (hm : Meth X.K C (Str.ofString m) f)
    (F : FnOk X.prog X.w X.K X.mg X.base (L2.CX X.prog X.w) k f fd ps (spV X.K T np cio fn)) (hr : Room k X.A) (hb : KBn X.K fd ps n ks (fun us ws => us ++ ws) (fun us ws => us ++ ws)) (tk : Takes X W) (hnp : n + ks.length = np) (hN : X.N[i]? = some x) (hv : Vis X.env.scope x) (ha : QAB T io X W true (e :: es) a) (hkw : QKB T io X W kws b)
    (hd : (x == ("__debug__" : Str)) = false := by decide) (hcd : (x == ("__classdict__" : Str)) = false := by decide)
    (hall : (backToKw pos (keywordEach kws X.env)).all (·.1.isSome) = true := by rfl) (hks : (backToKw pos (keywordEach kws X.env)).filterMap (·.1) = ks := by rfl)
    (hst : starEach (e :: es) X.env = (false, eval e X.env) :: starEach es X.env := by rfl) (hpl : ((backTo pos (starEach (e :: es) X.env)).any (·.1) || (backToKw pos (keywordEach kws X.env)).any (·.1.isNone)) = false := by rfl)
    (ht : eval (.Call (.Attribute (.Name x xpos) (Str.ofString m) apos) (e :: es) kws pos) X.env = (do let ov ← eval (.Name x xpos) X.env; standAt apos.atName; let (g, first) ← holding [ov] (getMethod ov (Str.ofString m) pl); callWith pos g first (backTo pos (starEach (e :: es) X.env)) (backToKw pos (keywordEach kws X.env))) := by rfl) :
    QE T io X W false (.Call (.Attribute (.Name x xpos) (Str.ofString m) apos) (e :: es) kws pos) (mMethK c m i fn cio n ks.length a b) := fun G g =>
  PE.imp (pe_methK (pe_var hN hv hd hcd) hc hm F hr hb (fun σ => passAt tk σ) (ha G g) (hkw G g) hall hks hst hpl ht) fun σ H Q ⟨F0, r, t, tv, h1, h2⟩ => by
    unfold mMethK at h2
    split at h2
    · rename_i d e1
      split at h2
      · rename_i hi
        obtain ⟨v, ev, h3⟩ := h1.take (slot?_eq e1)
        obtain ⟨a', dx, fs, rfl, hH, hl⟩ := isC_lk hi hT h3.top h3.sub
        refine ⟨_, ev, a', dx, fs, rfl, hH, hl, F0, r, t, tv, h1, (sat_bind h2).mono (fun ds r2 q vs F2 H2 s2 z2 h4 lk2 => ?_) fun _ _ q => q⟩
        refine ⟨F2, r2, t, tv, h4, (sat_bind q).mono (fun es' r3 q zs F3 H3 s3 z3 h5 lk3 => ?_) fun _ _ q => q.trans s2⟩
        obtain ⟨hn, q⟩ := sat_ck (sat_bind q)
        obtain ⟨hn1, hn⟩ := Bool.and_eq_true_iff.mp hn
        obtain ⟨hn2, hn3⟩ := Bool.and_eq_true_iff.mp hn
        have hn1 := of_decide_eq_true hn1
        have hn2 := of_decide_eq_true hn2
        have l1 := lk2.length
        have l2 := lk3.length
        refine ⟨by rw [← l1]; exact hn1, by rw [← l2]; exact hn2, ?_⟩
        cases e2 : slot? i r3 with
        | none => rw [e2] at q; exact q.elim
        | some d2 =>
          rw [e2] at q
          obtain ⟨v', ev', h6⟩ := h5.take (slot?_eq e2)
          have evv : v' = .ref a' := by rw [ev] at ev'; cases ev'; rfl
          subst evv
          have lk4 := LkL_append (lk2.mono s3 (z3 rfl)) lk3
          have h7 := h6.pushL (lfs_fz hn3 lk4)
          have hlen : (ds ++ es').length = (vs ++ zs).length := by simp [l1, l2]
          refine call_imp (bk := some i :: List.replicate (ds ++ es').length none) (ds := d2 :: (ds ++ es')) (vs := .ref a' :: (vs ++ zs)) (by simp [l1, l2]) (by simp only [List.length_cons, List.length_append]; omega) (fun j i' e => ?_) (Rl.lift hlen h7) (R.sat.mono q (fun d' r' q v F' H' s5 h5 => q v F' H' ((s2.trans s3).trans s5) (fun z => nomatch z) h5) fun _ _ q => q.trans (s2.trans s3))
          cases j with
          | zero => simp at e; subst e; exact ⟨_, rfl, ev⟩
          | succ j =>
            rw [List.getElem?_cons_succ, List.getElem?_replicate] at e
            split at e <;> cases e
      · exact h2.elim
    · exact h2.elim
/-! ### a leaf, then something that writes -/
end
section
variable {r : VS} {ex : String → VS → Prop} {K : D → VS → Prop}
def methKE (i : Nat) (fn : Fn) (cio : List Nat) (K : D → VS → Prop) (ex : String → VS → Prop) (l : List D) (d : D) (r : VS) : Prop := (RF.back cio (some i :: List.replicate l.length none) (fn (d :: l)) (r.set i none)).sat K ex
def methKR (i : Nat) (fn : Fn) (cio : List Nat) (np nk : Nat) (ds : List D) (K : D → VS → Prop) (ex : String → VS → Prop) (es : List D) (r : VS) : Prop := (ds.length + 1 = np ∧ es.length = nk ∧ (ds ++ es).all isLf = true) ∧ optK (slot? i r) r (methKE i fn cio K ex (ds ++ es))
def methKL (i : Nat) (fn : Fn) (cio : List Nat) (np nk : Nat) (kws : M (List D)) (K : D → VS → Prop) (ex : String → VS → Prop) (ds : List D) (r : VS) : Prop := (kws r).sat (methKR i fn cio np nk ds K ex) ex
def methK0 (c m : String) (i : Nat) (fn : Fn) (cio : List Nat) (np nk : Nat) (args kws : M (List D)) (K : D → VS → Prop) (ex : String → VS → Prop) (d : D) (r : VS) : Prop := isC c m d = true ∧ (args r).sat (methKL i fn cio np nk kws K ex) ex
theorem Z118 {c m : String} {i : Nat} {fn : Fn} {cio : List Nat} {np nk : Nat} {args kws : M (List D)} : (mMethK c m i fn cio np nk args kws r).sat K ex = optK (slot? i r) r (methK0 c m i fn cio np nk args kws K ex) := by
  unfold mMethK
  cases slot? i r with
  | none => rfl
  | some d =>
    show (if isC c m d = true then _ else _ : R D).sat K ex = (isC c m d = true ∧ _)
    cases isC c m d with
    | false => exact propext ⟨fun z => z.elim, fun z => nomatch z.1⟩
    | true =>
      rw [if_pos rfl, sat_bind_eq]
      refine propext ⟨fun z => ⟨rfl, ?_⟩, fun z => ?_⟩
      all_goals (
        have e : (fun (a : List D) r' => ((M.bind kws fun es => M.bind (M.ck (decide (a.length + 1 = np) && (decide (es.length = nk) && (a ++ es).all isLf))) fun _ => fun r => match slot? i r with
          | some d => mCall fn cio (some i :: List.replicate (a ++ es).length none) (M.ret (d :: (a ++ es))) (r.set i none)
          | none => .no) r').sat K ex) = methKL i fn cio np nk kws K ex := by
          funext ds r'
          rw [sat_bind_eq]; unfold methKL; congr 1; funext es r2; rw [sat_bind_eq, Z39]
          unfold methKR
          simp only [Bool.and_eq_true, decide_eq_true_eq]
          congr 1
          cases slot? i r2 with
          | none => rfl
          | some d => show (mCall _ _ _ _ _).sat K ex = _; rw [Z135]; rfl)
      · rw [← e]; exact z
      · rw [e]; exact z.2
theorem Z119 {c m : String} {i : Nat} {fn : Fn} {cio : List Nat} {np nk : Nat} {args kws : M (List D)} {d : D} : methK0 c m i fn cio np nk args kws K ex d r = (isC c m d = true ∧ (args r).sat (methKL i fn cio np nk kws K ex) ex) := by unfold methK0; exact (Eq.refl _)
theorem Z120 {i : Nat} {fn : Fn} {cio : List Nat} {np nk : Nat} {kws : M (List D)} {ds : List D} : methKL i fn cio np nk kws K ex ds r = (kws r).sat (methKR i fn cio np nk ds K ex) ex := by unfold methKL; exact (Eq.refl _)
theorem Z121 {i : Nat} {fn : Fn} {cio : List Nat} {np nk : Nat} {ds es : List D} : methKR i fn cio np nk ds K ex es r = ((ds.length + 1 = np ∧ es.length = nk ∧ (ds ++ es).all isLf = true) ∧ optK (slot? i r) r (methKE i fn cio K ex (ds ++ es))) := by unfold methKR; exact (Eq.refl _)
theorem Z122 {i : Nat} {fn : Fn} {cio : List Nat} {l : List D} {d : D} : methKE i fn cio K ex l d r = (RF.back cio (some i :: List.replicate l.length none) (fn (d :: l)) (r.set i none)).sat K ex := by unfold methKE; exact (Eq.refl _)
theorem Z123 {s : Sc} : isLf (.leaf s) = true := by unfold isLf; exact (Eq.refl _)
end
end VL

/-! VL27: writing at a place: a node down a path of owned nodes. -/
namespace VL
open PySem PySem.Spec L2
section
variable {K : PySem.W.Frag} {T : String → Option Addr} {G : Gm} {F H : Hp} {r : VS} {t : List D} {σ : L2.St} {tv : List V}
theorem Rl.remakeP {ext : List D} {evs : List V} {k : Kn} {ds : List D} {d : D} {v : V} {ns : List Nat} (hl : ext.length = evs.length) (h : Rl K T G F r (ext ++ d :: t) σ (evs ++ v :: tv) H) (e : d.getO ns = some (.node true k ds)) :
    ∃ a vs C dx, vget H v ns = some (.ref a) ∧ k.fits vs.length ∧ H a = some (objOf C dx k vs) ∧ k.insOk T C H a dx ∧ ds.length = vs.length ∧ ∀ (k' : Kn) (ds' : List D) (vs' : List V), k.like k' → k'.fitsW vs'.length → Sel K T (ext ++ ds) (evs ++ vs) ds' vs' →
      Rl K T G F r (d.putO ns (.node true k' ds') :: t) σ (v :: tv) (upd H a (objOf C dx k' vs')) := by
  obtain ⟨⟨Ps, Pt, h1, h2, dj, hq⟩, b1, b2, b3, b4, b5, b6⟩ := h
  obtain ⟨A, B, g1, g2, dj1, un⟩ := OwL.cut hl h2
  cases g2 with
  | @cons _ _ _ _ _ A2 B2 ol g2 dj3 un2 =>
    obtain ⟨v1, P1, P2, eg, o1, djp, unp, wand⟩ := Ow.focus ol e
    cases o1 with
    | @own a dx k vs ds _ P0 hn hl2 n1 n2 f1 f2 hp =>
      obtain ⟨z1, C, e1, e2⟩ := hn
      refine ⟨a, vs, C, dx, eg, z1.1, e1, e2, hl2.length, fun k' ds' vs' lk ft sel => ?_⟩
      have pa1 : P1 a := (hp a).mpr (.inl (.inl rfl))
      have pdx1 : P1 dx := (hp dx).mpr (.inl (.inr rfl))
      have pa : A2 a := (unp a).mpr (.inl pa1)
      have pdx : A2 dx := (unp dx).mpr (.inl pdx1)
      have dA : ∀ b, A b → ¬ A2 b := fun b z w => dj1 b z ((un2 b).mpr (.inl w))
      obtain ⟨P', q1, q2⟩ := sel F H (fun b => A b ∨ P0 b) (OwL.join g1 hl2 (fun b z w => dA b z ((unp b).mpr (.inl ((hp b).mpr (.inr w))))) fun _ => Iff.rfl)
      have in2 : ∀ b, ((((b = a ∨ b = dx) ∨ P' b) ∨ P2 b) ∨ B2 b) → Pt b := fun b z => by
        rcases z with ((z | z) | z) | z
        · refine (un b).mpr (.inr ((un2 b).mpr (.inl ?_)))
          rcases z with rfl | rfl
          · exact pa
          · exact pdx
        · rcases q2 b z with w | w
          · exact (un b).mpr (.inl w)
          · exact (un b).mpr (.inr ((un2 b).mpr (.inl ((unp b).mpr (.inl ((hp b).mpr (.inr w)))))))
        · exact (un b).mpr (.inr ((un2 b).mpr (.inl ((unp b).mpr (.inr z)))))
        · exact (un b).mpr (.inr ((un2 b).mpr (.inr z)))
      have keep : ∀ {Q : Ft}, (∀ b, Q b → ¬ A2 b) → ∀ b, Q b → upd H a (objOf C dx k' vs') b = H b := fun hQ b z => upd_ne fun e => hQ b z (by rw [e]; exact pa)
      have dS : ∀ b, Ps b → ¬ A2 b := fun b z w => dj b z ((un b).mpr (.inr ((un2 b).mpr (.inl w))))
      have dB : ∀ b, B2 b → ¬ A2 b := fun b z w => dj3 b w z
      have nP : ∀ b, P' b → b ≠ a ∧ b ≠ dx := fun b z => by
        rcases q2 b z with w | w
        · exact ⟨fun e => dA b w (by rw [e]; exact pa), fun e => dA b w (by rw [e]; exact pdx)⟩
        · exact ⟨fun e => n1 (by rw [← e]; exact w), fun e => n2 (by rw [← e]; exact w)⟩
      have on : Ow K T F (upd H a (objOf C dx k' vs')) (.node true k' ds') (.ref a) (fun b => (b = a ∨ b = dx) ∨ P' b) := by
        refine .own (dx := dx) (vs := vs') (P0 := P') ⟨⟨ft.fits, ft.noKey⟩, C, upd_same, insOk_like lk e2 ?_⟩ (q1.frame (Same.refl _) (fun b z => upd_ne (nP b z).1) fun b z => (q1.at z).1) (fun z => (nP a z).1 rfl) (fun z => (nP dx z).2 rfl) f1 f2 fun _ => Iff.rfl
        by_cases e : dx = a
        · exact .inr e
        · exact .inl (upd_ne e)
      have dN : Dj (fun b => (b = a ∨ b = dx) ∨ P' b) P2 := fun b z w => by
        rcases z with (rfl | rfl) | z
        · exact djp _ pa1 w
        · exact djp _ pdx1 w
        · rcases q2 b z with y | y
          · exact dA b y ((unp b).mpr (.inr w))
          · exact djp b ((hp b).mpr (.inr y)) w
      have ow := wand F (upd H a (objOf C dx k' vs')) (.node true k' ds') (fun b => (b = a ∨ b = dx) ∨ P' b) (fun b => ((b = a ∨ b = dx) ∨ P' b) ∨ P2 b) (Same.refl _) (fun b z => upd_ne fun e => djp a pa1 (by rw [← e]; exact z)) (fun b z => (ol.at ((unp b).mpr (.inr z))).1) on dN fun _ => Iff.rfl
      refine ⟨⟨Ps, fun b => (((b = a ∨ b = dx) ∨ P' b) ∨ P2 b) ∨ B2 b, h1.frame (Same.refl _) (keep dS) fun b z => (h1.at z).1, ?_, fun b z w => dj b z (in2 b w), fun b z => hq b (z.imp id (in2 b))⟩, ?_, ?_, b3, b4, b5, tabs_upd b6 e1 plain_objOf⟩
      · refine .cons (P2 := B2) ow (g2.frame (Same.refl _) (keep dB) fun b z => (g2.at z).1) (fun b z w => ?_) fun _ => Iff.rfl
        rcases z with ((rfl | rfl) | z) | z
        · exact dB _ w pa
        · exact dB _ w pdx
        · rcases q2 b z with y | y
          · exact dj1 b y ((un2 b).mpr (.inr w))
          · exact dB b w ((unp b).mpr (.inl ((hp b).mpr (.inr y))))
        · exact dB b w ((unp b).mpr (.inr z))
      · exact fun b o e => by
          rw [upd_ne (fun z => by rw [z, f1] at e; cases e)]
          exact b1 b o e
      · intro b o e n
        have : b ≠ a := fun z => by
          rcases hq a (.inr (in2 a (.inl (.inl (.inl (.inl rfl)))))) with w | w
          · exact n (by rw [z]; exact w)
          · rw [z, w] at e; cases e
        rw [upd_ne this]
        exact b2 b o e n
/-- the same in a slot -/
theorem Rl.mutPath {ext : List D} {evs : List V} {i : Nat} {d : D} {ns : List Nat} {k : Kn} {ds : List D} (hl : ext.length = evs.length) (h : Rl K T G F r (ext ++ t) σ (evs ++ tv) H) (e : slot? i r = some d) (e2 : d.getO ns = some (.node true k ds)) :
    ∃ v a vs C dx, σ[i]? = some (some v) ∧ vget H v ns = some (.ref a) ∧ k.fits vs.length ∧ H a = some (objOf C dx k vs) ∧ k.insOk T C H a dx ∧ ds.length = vs.length ∧ ∀ (k' : Kn) (ds' : List D) (vs' : List V), k.like k' → k'.fitsW vs'.length → Sel K T (ext ++ ds) (evs ++ vs) ds' vs' →
      Rl K T G F (r.set i (some (d.putO ns (.node true k' ds')))) t σ tv (upd H a (objOf C dx k' vs')) := by
  have es := slot?_eq e
  obtain ⟨v, ev, h2⟩ := h.take es
  have h3 := Rl.sel (Sel.sink hl) h2
  obtain ⟨a, vs, C, dx, z0, z1, z2, z3, z4, z5⟩ := Rl.remakeP hl h3 e2
  refine ⟨v, a, vs, C, dx, ev, z0, z1, z2, z3, z4, fun k' ds' vs' l f s => ?_⟩
  have h5 := z5 k' ds' vs' l f s
  have hi : i < (r.set i none).length := by rw [List.length_set]; exact (List.getElem?_eq_some_iff.mp es).1
  have h6 := h5.put hi fun w ew => by
    have := h5.pin i w ew
    rw [ev] at this
    exact Option.some.inj (Option.some.inj this)
  rw [List.set_set, set_same ev] at h6
  exact h6
end
end VL

/-! VL28: the law's end with the script's bits. -/
namespace VL
open PySem PySem.Spec L2
end VL

/-! VL29: dicts with keys that are ints or texts. -/
namespace VL
open PySem PySem.Spec L2
section
variable {K : PySem.W.Frag} {T : String → Option Addr} {F H : Hp}
/-! in, not in -/
/-! d[k], d.get(k, x) -/
end
section
variable {T : String → Option Addr} {io : Io} {X : Cx} {W : WX} {p p1 p2 : Bool} {pos : Pos}
/-! {} -/
/-! a dict is written -/
/-! sorted(d) -/
end
end VL

/-! VL30: dict comprehensions. -/
namespace VL
open PySem PySem.Spec L2 PyProof.Rows
section
variable {X : Cx}
end
section
variable {T : String → Option Addr} {io : Io} {X : Cx} {W : WX} {p p1 p2 p3 : Bool} {pos : Pos}
end
end VL

/-! VL31: x in a tuple of texts; xs[::-1]; dicts in the evaluator; tables of texts. -/
namespace VL
open PySem PySem.Spec L2
section
variable {K : PySem.W.Frag} {T : String → Option Addr}
/-! a text in a list or tuple of texts -/
/-! xs[::-1] -/
end
section
variable {T : String → Option Addr} {io : Io} {X : Cx} {W : WX} {p : Bool} {pos : Pos}
end
/-! ### the evaluator -/
section
variable {r : VS} {ok : Fl → VS → Prop} {ex : String → VS → Prop} {K : D → VS → Prop} {KL : List D → VS → Prop}
end
/-! ### tables: texts to anything -/
section
variable {α : Type}
abbrev Tb (α : Type) := List (List Nat × α)
variable {e : α → D} {l : Tb α} {t : List Nat} {o : Bool} {r : VS}
end
end VL

/-! VL32: text * int. -/
namespace VL
open PySem PySem.Spec L2
def MulS (z : Str) (n : Int) : Prop := z.length ≤ 100 ∧ 0 ≤ n ∧ n ≤ 1000
instance (z : Str) (n : Int) : Decidable (MulS z n) := by unfold MulS; infer_instance
end VL

/-! VL33: calls that look at the caller's data and answer with data of their own; comprehensions over a looked-at list. -/
namespace VL
open PySem PySem.Spec L2
/-! ### data all of whose nodes are owned -/
mutual
def D.allO : D → Bool
  | .leaf _ => true
  | .node o k ds => (o && D.allOL ds) || (!o && (decide (k = .tup) && ds.all D.keyLf))
def D.allOL : List D → Bool
  | [] => true
  | d :: ds => d.allO && D.allOL ds
end
section
variable {K : PySem.W.Frag} {T : String → Option Addr} {F F' H : Hp}
end
section
variable {T : String → Option Addr} {io : Io} {X : Cx} {W : WX} {p p1 p2 : Bool} {pos : Pos}
/-! ### comprehensions over a looked-at list -/
/-- the comprehension's reading, over a walk -/
theorem lcP_walks {K : PySem.W.Frag} {G : Gm} {own : List Nat} {g : Gt} {sl : List Nat} {pg : Bool} {c : M Bool} {el : M D} {J : It} {F : Hp} {ds : List D} {Pv : Hp → Prop} {r : VS} {t : List D} {tv : List V} {σ : L2.St} {H Hp0 : Hp} {D0 : Addr} {Q : Hp → Prop}
    (hD : Hp0 D0 = none) (hS : Same Hp0 H) (w : Walks K T J F ds Pv) (hv : ∀ F' H', Same F F' → Same F' H' → ((pg && (p1 && p2)) = true → Same Hp0 H') → Pv H') (hsl : ∀ j ∈ sl, j ∈ own) (hpo : ∀ i v, G.pin i = some v → i ∉ own) (h1 : Rl K T G F r (.node true .lst [] :: t) σ (.ref D0 :: tv) H)
    (h2 : (lcL own g c el ds [] r).sat (fun ys r' => ∀ F' H', Same F F' → ((pg && (p1 && p2)) = true → Same Hp0 H') → Rl K T G F' r' (.node true .lst ys :: t) σ (.ref D0 :: tv) H' → Q H') fun _ _ => False) :
    ∃ W' : Nat → Nat → Hp → Prop, (∃ m, W' 0 m H) ∧ ∀ i m H, W' i m H →
      (J.stop i H ∧ Q H) ∨ (J.go i H ∧ ∃ Nx : Hp → Prop, (∀ H', Nx H' → ∃ m', m' < m ∧ W' (i + 1) m' H') ∧ ∀ x H', J.yld i H x H' → tG K T G sl pg g x (wipe σ own) H' fun σ2 H2 => wipe σ2 own = wipe σ own ∧ tT K T G W0 p1 c σ2 H2 fun b H3 =>
        if b = true then tE K T G W0 p2 el σ2 H3 fun y H4 => ∃ acc, H4 D0 = some (.lst acc) ∧ acc.length < sizeLine ∧ Nx (upd H4 D0 (.lst (acc ++ [y]))) else Nx H3) := by
  let Inv := fun (i : Nat) (H : Hp) => ∃ F' r' σ' acc, Same F F' ∧ ((pg && (p1 && p2)) = true → Same Hp0 H) ∧ wipe σ' own = wipe σ own ∧ Rl K T G F' r' (.node true .lst acc :: t) σ' (.ref D0 :: tv) H ∧ (lcL own g c el (ds.drop i) acc r').sat (fun ys r' => ∀ F' H', Same F F' → ((pg && (p1 && p2)) = true → Same Hp0 H') → Rl K T G F' r' (.node true .lst ys :: t) σ (.ref D0 :: tv) H' → Q H') fun _ _ => False
  -- the slots wiped
  have wiped : ∀ {F' : Hp} {r' : VS} {σ' : L2.St} {t' : List D} {tv' : List V} {H' : Hp} (τ : L2.St), τ.length = σ'.length → (∀ j, j ∉ own → τ[j]? = σ'[j]?) → Rl K T G F' r' t' σ' tv' H' → Rl K T G F' (hide own r') t' τ tv' H' := by
    intro F' r' σ' t' tv' H' τ hl ht h
    refine (h.hide own).reval hl (fun j ⟨d, e⟩ => ht j fun z => (hide_get own r' j).2 z d e) fun i v e => ht i (hpo i v e)
  have sameOut : ∀ {σ' : L2.St}, wipe σ' own = wipe σ own → σ'.length = σ.length ∧ ∀ j, j ∉ own → σ'[j]? = σ[j]? := by
    intro σ' e
    refine ⟨by have := congrArg List.length e; rwa [wipe_length, wipe_length] at this, fun j hj => ?_⟩
    rw [← wipe_get σ' own j hj, e, wipe_get σ own j hj]
  refine ⟨fun i m H => m = ds.length - i ∧ i ≤ ds.length ∧ Inv i H, ⟨ds.length, by simp, Nat.zero_le _, F, r, σ, [], Same.refl _, fun _ => hS, rfl, h1, by simpa using h2⟩, ?_⟩
  rintro i m H1 ⟨rfl, hi, F1, r1, σ1, acc, s1, z1, ew, h3, q⟩
  have pv := hv F1 H1 s1 h3.sub z1
  obtain ⟨hlen, hout⟩ := sameOut ew
  by_cases hlt : i < ds.length
  · refine .inr ⟨w.go i H1 pv hlt, fun H' => Inv (i + 1) H', fun H' h => ⟨ds.length - (i + 1), by omega, rfl, hlt, h⟩, fun x H2 y => ?_⟩
    have ed : ds.drop i = ds[i] :: ds.drop (i + 1) := List.drop_eq_getElem_cons hlt
    rw [ed] at q
    have rs := (w.yld i H1 x H2 ds[i] pv (List.getElem?_eq_getElem hlt) y).mono s1
    have q := sat_bind q
    obtain ⟨r2, e2, q⟩ := sat_toU (sat_bind (m := mToU g ds[i]) (r := hide own r1) q)
    have h4 := wiped (wipe σ own) (by rw [wipe_length, hlen]) (fun j hj => by rw [wipe_get σ own j hj, hout j hj]) h3
    obtain ⟨F5, s5, h5', z5⟩ := h4.res rs
    replace s1 := s1.trans s5
    replace z1 := fun z => (z1 z).trans z5
    refine ⟨F5, hide own r1, _, _, ds[i], r2, h5', e2, fun σ2 F2 H2 o2 s2 z2 h5 => ?_⟩
    have ew2 := wipe_off hsl o2
    refine ⟨ew2, F2, r2, _, _, h5, (sat_calm (ex' := fun _ _ => False) (sat_bind q)).mono (fun b r3 q F3 H3 s3 z3 h6 => ?_) fun c r' q => q.elim⟩
    · cases b with
      | false =>
        rw [if_neg Bool.false_ne_true] at q ⊢
        exact ⟨F3, r3, σ2, acc, (s1.trans s2).trans s3, fun z => ((z1 z).trans (z2 (andL z))).trans (z3 (andL (andR z))), ew2, h6, q⟩
      | true =>
        rw [if_pos rfl] at q ⊢
        refine ⟨F3, r3, _, _, h6, (sat_calm (ex' := fun _ _ => False) (sat_bind q)).mono (fun y r4 q yv F4 H4 s4 z4 h7 => ?_) fun c r' q => q.elim⟩
        · obtain ⟨hz, q⟩ := sat_ck (sat_bind q)
          obtain ⟨vs, e5, hlv, h8⟩ := h7.appendTop (vs := [])
          refine ⟨vs, e5, by rw [← hlv]; exact of_decide_eq_true hz, F4, r4, σ2, acc ++ [y], ((s1.trans s2).trans s3).trans s4, fun z => ?_, ew2, h8, q⟩
          have zz := (((z1 z).trans (z2 (andL z))).trans (z3 (andL (andR z)))).trans (z4 (andR (andR z)))
          intro b o e
          rw [upd_ne (ne_of_none e hD)]
          exact zz b o e
  · have e : i = ds.length := by omega
    subst e
    rw [List.drop_eq_nil_of_le (Nat.le_refl _)] at q
    have h4 := wiped σ hlen.symm (fun j hj => (hout j hj).symm) h3
    exact .inl ⟨w.stop H1 pv, sat_bind q F1 H1 s1 z1 h4⟩

/-- the comprehension as a value, from its reading -/
theorem lcP_imp {G : Gm} {own : List Nat} {g : Gt} {sl : List Nat} {pg : Bool} {c : M Bool} {el : M D} {J : It} {F : Hp} {ds : List D} {Pv : Hp → Prop} {r : VS} {t : List D} {tv : List V} {σ : L2.St} {H : Hp} {Q : VK} {K : PySem.W.Frag}
    (w : Walks K T J F ds Pv) (hv : ∀ F' H', Same F F' → Same F' H' → ((pg && (p1 && p2)) = true → Same H H') → Pv H') (hsl : ∀ j ∈ sl, j ∈ own) (hpo : ∀ i v, G.pin i = some v → i ∉ own) (h1 : Rl K T G F r t σ tv H)
    (h2 : ((fun r => match lcL own g c el ds [] r with | .ok ys r' => R.ok (D.lst true ys) (unhide own r r') | _ => .no) r : R D).sat (fun d r' => ∀ v F' H', Same F F' → ((pg && (p1 && p2)) = true → Same H H') → Rl K T G F' r' (d :: t) σ (v :: tv) H' → Q v H') fun _ _ => False) :
    ∀ D0, H D0 = none → ∃ W' : Nat → Nat → Hp → Prop, (∃ m, W' 0 m (upd H D0 (.lst []))) ∧ ∀ i m H, W' i m H →
      (J.stop i H ∧ Q (.ref D0) H) ∨ (J.go i H ∧ ∃ Nx : Hp → Prop, (∀ H', Nx H' → ∃ m', m' < m ∧ W' (i + 1) m' H') ∧ ∀ x H', J.yld i H x H' → tG K T G sl pg g x (wipe σ own) H' fun σ2 H2 => wipe σ2 own = wipe σ own ∧ tT K T G W0 p1 c σ2 H2 fun b H3 =>
        if b = true then tE K T G W0 p2 el σ2 H3 fun y H4 => ∃ acc, H4 D0 = some (.lst acc) ∧ acc.length < sizeLine ∧ Nx (upd H4 D0 (.lst (acc ++ [y]))) else Nx H3) := by
  intro D0 hD
  have h3 := Rl.alloc (k := .lst) (ds := []) (vs := []) (fun _ _ z => nomatch z) rfl trivial h1 hD
  refine lcP_walks hD (same_upd hD) w hv hsl hpo h3 ?_
  dsimp only at h2
  cases e : lcL own g c el ds [] r with
  | no => rw [e] at h2; exact h2.elim
  | ex _ _ => rw [e] at h2; exact h2.elim
  | ok ys r' =>
    rw [e] at h2
    intro F' H' s1 z1 h4
    refine h2 (.ref D0) F' H' s1 z1 (Rl.unhide (fun i d e hs => ?_) own h4)
    obtain ⟨v, ev, lk⟩ := h1.look (slot?_eq e)
    exact ⟨v, ev, (lk.shr hs).mono s1⟩

end
/-! ### the evaluator -/
section
variable {r : VS} {ok : Fl → VS → Prop} {ex : String → VS → Prop} {K : D → VS → Prop} {KL : List D → VS → Prop}
end
end VL

/-! VL34: comprehensions over a dict; d.pop(k, x). -/
namespace VL
open PySem PySem.Spec L2
/-! ### a dict that is locked for a while -/
def rel (a : Addr) (w : HO) (M : Hp) : Hp := fun b => if b = a then (M b).map fun _ => w else M b
/-- two heaps that tell a dict at a, alike else -/
structure Two (a : Addr) (kvs : List (Key × V)) (F F1 : Hp) : Prop where
  ne : ∀ b, b ≠ a → F1 b = F b
  l : F a = some (.dK kvs) ∨ ∃ o, F a = some (.frz o (.dK kvs))
  r : F1 a = some (.dK kvs) ∨ ∃ o, F1 a = some (.frz o (.dK kvs))
section
variable {K : PySem.W.Frag} {T : String → Option Addr} {F F1 H H1 : Hp} {a : Addr} {kvs : List (Key × V)}
theorem Two.rd (t : Two a kvs F F1) {b : Addr} {u : HO} (h : Rd F b u) (hu : ∀ o u', u ≠ .frz o u') : Rd F1 b u := by
  by_cases e : b = a
  · rw [e] at h ⊢
    have hk : u = .dK kvs := by
      rcases t.l with z | ⟨o, z⟩ <;> rcases h with y | ⟨o', y⟩ <;> rw [z] at y
      · exact (Option.some.inj y).symm
      · cases y
      · exact absurd (Option.some.inj y).symm (hu _ _)
      · have := Option.some.inj y; injection this with _ h2; exact h2.symm
    subst hk
    rcases t.r with z | ⟨o, z⟩
    · exact .inl z
    · exact .inr ⟨o, z⟩
  · rcases h with y | ⟨o', y⟩
    · exact .inl (by rw [t.ne b e]; exact y)
    · exact .inr ⟨o', by rw [t.ne b e]; exact y⟩
theorem Two.at (t : Two a kvs F F1) {b : Addr} {u : HO} (h : F b = some u) (hu : ∀ o u', u ≠ .frz o u') (hd : ∀ k, u ≠ .dK k) : F1 b = some u := by
  have : b ≠ a := fun e => by
    rw [e] at h
    rcases t.l with z | ⟨o, z⟩ <;> rw [z] at h
    · exact hd _ (Option.some.inj h).symm
    · exact hu _ _ (Option.some.inj h).symm
  rw [t.ne b this]; exact h
theorem Two.node (t : Two a kvs F F1) {b : Addr} {k : Kn} {vs : List V} (h : NodeF K T F b k vs) : NodeF K T F1 b k vs := by
  obtain ⟨h1, h2⟩ := h
  refine ⟨h1, ?_⟩
  cases k with
  | lst => exact h2.imp (fun z => t.rd z fun _ _ e => nomatch e) id
  | tup => exact t.at h2 (fun _ _ e => nomatch e) (fun _ e => nomatch e)
  | dic ks => exact t.rd h2 fun _ _ e => nomatch e
  | dit ks => exact t.rd h2 fun _ _ e => nomatch e
  | ins c fs =>
    obtain ⟨C, dx, e1, e2, e3⟩ := h2
    exact ⟨C, dx, e1, t.at e2 (fun _ _ e => nomatch e) (fun _ e => nomatch e), t.at e3 (fun _ _ e => nomatch e) (fun _ e => nomatch e)⟩
theorem Two.fa (t : Two a kvs F F1) {b : Addr} (h : F b = none) : F1 b = none := by
  have : b ≠ a := fun e => by
    rw [e] at h
    rcases t.l with z | ⟨o, z⟩ <;> rw [z] at h <;> cases h
  rw [t.ne b this]; exact h
end
theorem PE.or {X : Cx} {e : Expr} {t t' : TE} (h : PE X e t) (h' : PE X e t') : PE X e fun σ H Q => t σ H Q ∨ t' σ H Q := ⟨fun pins s σ H Q I q => q.elim (h.run pins s σ H Q I) (h'.run pins s σ H Q I)⟩
theorem PE.ex {X : Cx} {e : Expr} {α : Type} {P : α → Prop} {t : α → TE} (h : ∀ a, P a → PE X e (t a)) : PE X e fun σ H Q => ∃ a, P a ∧ t a σ H Q := ⟨fun pins s σ H Q I ⟨a, p, q⟩ => (h a p).run pins s σ H Q I q⟩
section
variable {T : String → Option Addr} {io : Io} {X : Cx} {W : WX} {p p1 p2 p3 : Bool} {pos : Pos}
theorem Pins.rel {io : Io} {G : Gm} (h : Pins io G) (a : Addr) (w : HO) : Pins io ⟨rel a w G.H0, G.P0, rel a w G.F0, G.pin, G.tb⟩ := h
end
section
variable {T : String → Option Addr} {io : Io} {X : Cx} {W : WX} {p p1 p2 p3 : Bool} {pos : Pos}
theorem PS.ex {X : Cx} {e : Stmt} {α : Type} {P : α → Prop} {t : α → TS} (h : ∀ a, P a → PS X e (t a)) : PS X e fun D σ H => ∃ a, P a ∧ t a D σ H := ⟨fun pins s σ H D I ⟨a, p, q⟩ => (h a p).run pins s σ H D I q⟩
end
/-! d.pop(k, x) of a slot -/
section
variable {T : String → Option Addr} {io : Io} {X : Cx} {W : WX} {p p1 p2 p3 : Bool} {pos : Pos}
end
/-! ### the evaluator -/
section
variable {r : VS} {ok : Fl → VS → Prop} {ex : String → VS → Prop} {K : D → VS → Prop} {KL : List D → VS → Prop}
end
/-! ### tables -/
section
variable {α : Type} {e : α → D} {l : Tb α} {t : List Nat} {o : Bool} {r : VS}
end
end VL

/-! VL35: sorted of pairs whose firsts are texts, no two alike. -/
namespace VL.STx
open PySem PySem.Spec PyProof.Rows SrtO
section
variable {prog : Program} {w : World} {A : Around} {E : Value → Shared → Prop} {s : Shared}
def IsTx (h : Heap) (v : Value) (x : Str) : Prop := ∃ a o t u n, v = .ref a ∧ h.get? a = some o ∧ o.cls = .type "tuple" ∧ o.data = .seq #[.str x t, u] n
theorem IsTx.keeps {h h' : Heap} {v : Value} {x : Str} (p : IsTx h v x) (k : ∀ b o, h.get? b = some o → o.cls = .type "tuple" → h'.get? b = some o) : IsTx h' v x := by
  obtain ⟨a, o, t, u, n, e, ho, hc, hd⟩ := p
  exact ⟨a, o, t, u, n, e, k _ _ ho hc, hc, hd⟩
end
end VL.STx
namespace L2
open PySem PySem.Spec PyProof.Rows
/-- the items are pairs whose firsts are these texts -/
abbrev TxAt (K : PySem.W.Frag) (H : Hp) : List V → List Str → Prop := Paired fun x z => ∃ t u, x = V.ref t ∧ SqT K H t [.str z, u]
theorem TxAt.len {K : PySem.W.Frag} {H : Hp} : ∀ {xs : List V} {ks : List Str}, TxAt K H xs ks → xs.length = ks.length
  | _, _, .nil => rfl
  | _, _, .cons _ t => congrArg (· + 1) (TxAt.len t)
section
variable {X : Cx}
end
end L2
namespace VL
open PySem PySem.Spec L2
section
variable {K : PySem.W.Frag} {T : String → Option Addr}
end
end VL

/-! VL36: properties of own classes. -/
namespace VL
open PySem PySem.Spec L2
/-! ### what the head tells of them -/
structure PrD where
  cls : Str
  f : Str
  name : Str
  qual : Str
  params : Arguments
  body : List Stmt
  scope : Scope
/-- where the getter stands -/
def pgA (K : PySem.W.Frag) (C f : Str) : Addr := match PySem.W.recIn K (He.ma K (He.ga K C) f) "property" with
  | some (.ref g :: _) => g
  | _ => 0
def fnWa (K : PySem.W.Frag) (g : Addr) : He.FnW := match K.lookup g with
  | some ⟨_, _, .func fd, _⟩ => some (fd.name, fd.qualname, fd.params, fd.body, fd.scope, fd.globals, fd.closure, fd.builtins)
  | _ => none
def PrD.val (d : PrD) : He.FnW := some (d.name, d.qual, d.params, .stmts d.body, d.scope, mainGlobals, [], builtinsNs)
def propB (K : PySem.W.Frag) (C f : Str) : Bool :=
  decide (PySem.W.findIn K (.ref (He.ga K C)) f = some (some (.ref (He.ma K (He.ga K C) f)))) &&
  (decide (PySem.W.specialIn K (.ref (He.ma K (He.ga K C) f)) "__get__" = some (some (.builtin "property.__get__"))) &&
  (decide (PySem.W.takesIn K (.ref (He.ma K (He.ga K C) f)) = some true) &&
  (match PySem.W.recIn K (He.ma K (He.ga K C) f) "property" with
    | some (.ref _ :: _) => true
    | _ => false)))
theorem propB_ok {K : PySem.W.Frag} {C f : Str} (h : propB K C f = true) : PropOf K (He.ga K C) f (He.ma K (He.ga K C) f) (pgA K C f) := by
  obtain ⟨h1, h⟩ := He.ba h
  obtain ⟨h2, h⟩ := He.ba h
  obtain ⟨h3, h4⟩ := He.ba h
  refine ⟨of_decide_eq_true h1, of_decide_eq_true h2, of_decide_eq_true h3, ?_⟩
  unfold pgA
  split at h4
  · rename_i g rest e
    rw [e]; exact ⟨rest, rfl⟩
  · cases h4
def PrD.ok (K : PySem.W.Frag) (d : PrD) : Bool := propB K d.cls d.f && (PySem.W.keepIn K (.ref (pgA K d.cls d.f)) && (match K.lookup (pgA K d.cls d.f) with
  | some ⟨_, _, .func fd, _⟩ => PySem.W.codeIn K fd.code d.qual && (He.dflB K fd.defaults [] && He.kwdB K fd.kwdefaults [])
  | _ => false))
theorem PrD.funD {K : PySem.W.Frag} {d : PrD} (e : fnWa K (pgA K d.cls d.f) = d.val) (c : d.ok K = true) : PropOf K (He.ga K d.cls) d.f (He.ma K (He.ga K d.cls) d.f) (pgA K d.cls d.f) ∧ ∃ fd, FunD K d.name d.qual d.params d.body d.scope [] [] (pgA K d.cls d.f) fd := by
  obtain ⟨c0, c1⟩ := He.ba c
  obtain ⟨kp, c2⟩ := He.ba c1
  refine ⟨propB_ok c0, ?_⟩
  unfold fnWa at e
  cases q : K.lookup (pgA K d.cls d.f) with
  | none => rw [q] at c2; cases c2
  | some o =>
    obtain ⟨oc, od, dt, osl⟩ := o
    rw [q] at c2 e
    cases dt with
    | func fd =>
      obtain ⟨n1, n2, n3, n4, n5, n6, n7, n8, n9, n10, n11, n12, n13, n14, n15⟩ := fd
      have e2 : (some (n1, n2, n3, n4, n5, n6, n7, n15) : He.FnW) = some (d.name, d.qual, d.params, .stmts d.body, d.scope, mainGlobals, [], builtinsNs) := e
      simp only [Option.some.injEq, Prod.mk.injEq] at e2
      obtain ⟨h1, h2, h3, h4, h5, h6, h7, h8⟩ := e2
      subst h1 h2 h3 h4 h5 h6 h7 h8
      have c3 : (PySem.W.codeIn K n13 d.qual && (He.dflB K n8 [] && He.kwdB K n9 [])) = true := c2
      obtain ⟨k1, k2⟩ := He.ba c3
      obtain ⟨k3, k4⟩ := He.ba k2
      exact ⟨_, ⟨oc, od, n8, n9, n10, n11, n12, n13, n14, osl, rfl, q, k1, He.dflB_ok k3, He.kwdB_ok k4⟩, kp⟩
    | _ => cases c2
def SaysP (fp : List PrD) (K : PySem.W.Frag) : Prop := (fp.map fun d => (d.ok K, fnWa K (pgA K d.cls d.f))) = fp.map fun d => (true, d.val)
theorem SaysP.get {fp : List PrD} {K : PySem.W.Frag} (c : SaysP fp K) (i : Nat) {d : PrD} (h : fp[i]? = some d := by rfl) : PropOf K (He.ga K d.cls) d.f (He.ma K (He.ga K d.cls) d.f) (pgA K d.cls d.f) ∧ ∃ fd, FunD K d.name d.qual d.params d.body d.scope [] [] (pgA K d.cls d.f) fd := by
  have e2 := congrArg (fun l : List (Bool × He.FnW) => l[i]?) (show _ = _ from c)
  simp only [List.getElem?_map, h, Option.map_some, Option.some.injEq, Prod.mk.injEq] at e2
  exact PrD.funD e2.2 e2.1
/-! ### e.f, a property whose getter gives a leaf and raises nothing -/
def runP (fn : Fn) (ds : List D) : M D := fun r => match fn ds with
  | .ok (.leaf s) [] => .ok (.leaf s) r
  | _ => .no
section
variable {T : String → Option Addr} {io : Io} {X : Cx} {W : WX} {p : Bool} {pos : Pos}
theorem runP_sat {fn : Fn} {ds : List D} {r : VS} {ok : D → VS → Prop} {ex ex' : String → VS → Prop} (h : (runP fn ds r).sat ok ex) : (runB fn ds r).sat ok ex' := by
  unfold runP at h
  unfold runB
  split at h
  · rename_i s e
    rw [e]; exact h
  · exact h.elim
end
/-! ### evaluated -/
section
variable {r : VS} {K : D → VS → Prop} {ex : String → VS → Prop}
def RF.toP : RF → VS → R D := fun x r => match x with
  | .ok (.leaf s) [] => .ok (.leaf s) r
  | _ => .no
theorem Z26 {s : Sc} : (RF.ok (.leaf s) []).toP r = .ok (.leaf s) r := nr rfl
end
end VL

/-! VL37: places: a slot and a path of owned nodes. -/
namespace VL
open PySem PySem.Spec L2
abbrev Pl := Nat × List Nat
def plD? (q : Pl) (r : VS) : Option D := (slot? q.1 r).bind (·.getO q.2)
theorem vget_append {H : Hp} : ∀ {ns : List Nat} {x v : V} {j : Nat}, vget H x ns = some v → vget H x (ns ++ [j]) = vkid H v j
  | [], x, v, j, e => by
    cases e
    show (match vkid H x j with | some u => some u | none => none) = _
    cases vkid H x j <;> rfl
  | n :: ns, x, v, j, e => by
    have e : (match vkid H x n with | some u => vget H u ns | none => none) = some v := e
    show (match vkid H x n with | some u => vget H u (ns ++ [j]) | none => none) = _
    cases h : vkid H x n with
    | none => rw [h] at e; cases e
    | some u => rw [h] at e; exact vget_append e
theorem vget_mono {H H' : Hp} (s : Same H H') : ∀ {ns : List Nat} {x v : V}, vget H x ns = some v → vget H' x ns = some v
  | [], _, _, e => e
  | n :: ns, x, v, e => by
    have e : (match vkid H x n with | some u => vget H u ns | none => none) = some v := e
    show (match vkid H' x n with | some u => vget H' u ns | none => none) = some v
    have k : ∀ u, vkid H x n = some u → vkid H' x n = some u := fun u eu => by
      cases x with
      | ref a =>
        unfold vkid at eu ⊢
        dsimp only at eu ⊢
        cases ha : H a with
        | none => rw [ha] at eu; cases eu
        | some o => rw [ha] at eu; rw [s a o ha]; exact eu
      | _ => cases eu
    cases h : vkid H x n with
    | none => rw [h] at e; cases e
    | some u => rw [h] at e; rw [k u h]; exact vget_mono s e
section
variable (T : String → Option Addr) (io : Io) (X : Cx) (W : WX)
def tPl (K : PySem.W.Frag) (G : Gm) (m : M Pl) : TE := fun σ H Q => ∃ F r t tv, Rl K T G F r t σ tv H ∧
  (m r).sat (fun q r' => ∀ x v F' H', Same F F' → Same H H' → Rl K T G F' r' t σ tv H' → σ[q.1]? = some (some x) → vget H' x q.2 = some v → Q v H') (exP K T G W σ t tv F)
def QP (e : Expr) (m : M Pl) : Prop := ∀ G, Pins io G → PE X e (tPl T W X.K G m)
end
section
variable {T : String → Option Addr} {io : Io} {X : Cx} {W : WX} {p : Bool} {pos : Pos}
/-- a name -/
def mPl (i : Nat) : M Pl := fun r => match slot? i r with
  | some _ => .ok (i, []) r
  | none => .no
theorem qp_name {i : Nat} {x : Str} {np : Pos} (hN : X.N[i]? = some x) (hv : Vis X.env.scope x) (hd : (x == ("__debug__" : Str)) = false := by decide) (hcd : (x == ("__classdict__" : Str)) = false := by decide) : QP T io X W (.Name x np) (mPl i) := fun G g =>
  PE.imp (pe_var hN hv hd hcd) fun σ H Q ⟨F, r, t, tv, h1, h2⟩ => by
    unfold mPl at h2
    split at h2
    · rename_i d e1
      obtain ⟨v, ev, lk⟩ := h1.look (slot?_eq e1)
      exact ⟨v, ev, h2 v v F H (Same.refl _) (Same.refl _) h1 ev rfl⟩
    · exact h2.elim
/-- o.f -/
def ixF : List String → String → Option Nat
  | g :: gs, f => if g = f then some 0 else (ixF gs f).map (· + 1)
  | [], _ => none
theorem ixF_zip {f : String} : ∀ {fs : List String} {vs : List V} {j : Nat}, ixF fs f = some j → fs.length = vs.length → ∃ v, ((fs.map fun x => Str.ofString x).zip vs).lookup (Str.ofString f) = some v ∧ (((fs.map fun x => Str.ofString x).zip vs)[j]?).map (·.2) = some v
  | [], _, _, e, _ => by cases e
  | _ :: _, [], _, _, h => by simp at h
  | g :: gs, v :: vs, j, e, h => by
    have e : (if g = f then some 0 else (ixF gs f).map (· + 1)) = some j := e
    by_cases z : g = f
    · rw [if_pos z] at e
      cases e
      subst z
      exact ⟨v, by simp [List.lookup], rfl⟩
    · rw [if_neg z] at e
      obtain ⟨i, ei, rfl⟩ := Option.map_eq_some_iff.mp e
      obtain ⟨u, e1, e2⟩ := ixF_zip (vs := vs) ei (by simpa using h)
      refine ⟨u, ?_, by simpa using e2⟩
      have hne : (Str.ofString f == Str.ofString g) = false := by
        rw [beq_eq_false_iff_ne]
        intro w
        exact z (ofString_inj w.symm)
      simp only [List.map_cons, List.zip_cons_cons, List.lookup, hne]
      exact e1
def plF? (L : List String) (f : String) (q : Pl) (r : VS) : Option Pl := match plD? q r with
  | some (.node true (.ins c fs) _) => if c ∈ L then (ixF fs f).map fun j => (q.1, q.2 ++ [j]) else none
  | _ => none
def mPlF (L : List String) (f : String) (m : M Pl) : M Pl := M.bind m fun q r => match plF? L f q r with
  | some q' => .ok q' r
  | none => .no
theorem plD?_cut {q : Pl} {r : VS} {d : D} (h : plD? q r = some d) : ∃ d0, slot? q.1 r = some d0 ∧ d0.getO q.2 = some d := Option.bind_eq_some_iff.mp h
theorem qp_fld {e : Expr} {L : List String} {f : String} {m : M Pl} (hL : FldOk X.K T L f) (he : QP T io X W e m) (hb : attributeBase e (Str.ofString f) X.env (eval e X.env) = eval e X.env := by rfl) : QP T io X W (.Attribute e (Str.ofString f) pos) (mPlF L f m) := fun G g =>
  PE.imp (pe_fld (he G g) hb) fun σ H Q ⟨F, r, t, tv, h1, h2⟩ => by
    refine ⟨F, r, t, tv, h1, (sat_bind h2).mono (fun q r1 hq x v F1 H1 s1 z1 h3 ex ev => ?_) fun _ _ q => q⟩
    cases e1 : plF? L f q r1 with
    | none => rw [e1] at hq; exact hq.elim
    | some q' =>
      rw [e1] at hq
      unfold plF? at e1
      split at e1
      · rename_i c fs ds e2
        split at e1
        · rename_i hc
          obtain ⟨j, ej, rfl⟩ := Option.map_eq_some_iff.mp e1
          obtain ⟨d0, es, eg⟩ := plD?_cut e2
          obtain ⟨x2, a, vs, C, dx, y1, y2, y3, y4, y5, _⟩ := Rl.mutPath (ext := []) (evs := []) rfl h3 es eg
          have : x2 = x := by rw [ex] at y1; exact (Option.some.inj (Option.some.inj y1)).symm
          subst this
          have : v = .ref a := by rw [ev] at y2; exact Option.some.inj y2
          subst this
          obtain ⟨k1, k2⟩ := hL c hc C y5.1
          obtain ⟨u, u1, u2⟩ := ixF_zip (vs := vs) ej y3
          refine ⟨a, C, dx, _, u, rfl, y4, k1, k2, u1, hq x2 u F1 H1 s1 z1 h3 ex ?_⟩
          rw [vget_append ev]
          show (match H1 a with
            | some (.lst vs) => vs[j]?
            | some (.tup vs) => vs[j]?
            | some (.dK kvs) => (kvs[j]?).map (·.2)
            | some (.dT kvs) => (kvs[j]?).map (·.2)
            | some (.ins _ _ fs) => (fs[j]?).map (·.2)
            | _ => none) = some u
          rw [y4]; exact u2
        · cases e1
      · cases e1
/-! ### append at a place -/
def isPL (q : Pl) (r : VS) : Bool := match plD? q r with
  | some (.node true .lst _) => true
  | _ => false
def appP (q : Pl) (d : D) : M D := fun r => match slot? q.1 r with
  | some d0 => (match d0.getO q.2 with
    | some (.node true .lst ds) => if ds.length < sizeLine then .ok .non (r.set q.1 (some (d0.putO q.2 (.node true .lst (ds ++ [d]))))) else .no
    | _ => .no)
  | none => .no
def mAppP (m : M Pl) (a : M D) : M D := M.bind m fun q r => if isPL q r = true then M.bind a (fun d => appP q d) r else .no
theorem qe_appP {o e : Expr} {apos : Pos} {m : M Pl} {a : M D} (ho : QP T io X W o m) (ha : QE T io X W true e a)
    (hst : starEach [e] X.env = [(false, eval e X.env)] := by rfl)
    (hbase : attributeBase o ("append" : Str) X.env (eval o X.env) = eval o X.env := by rfl)
    (hfew : ((backTo pos (starEach [e] X.env)).all (fun x => !x.1) && (backToKw pos (keywordEach [] X.env)).all (fun x => x.1.isSome) && decide (([e] : List Expr).length + ([] : List Keyword).length + (if ([] : List Keyword).isEmpty then 0 else 1) < 30)) = true := by rfl)
    (hline : (apos.endLine == pos.line) = true := by rfl) (hplain : (backTo pos (starEach [] X.env)).any (·.1) = false := by rfl) :
    QE T io X W false (.Call (.Attribute o "append" apos) [e] [] pos) (mAppP m a) := fun G g =>
  PE.imp (pe_bm PySem.F.plainAttrs_list PySem.F.slot_list_append PySem.F.type_list_append mt_append (ho G g) (pa_cons (ha G g) pa_nil hst) hbase hfew hline hst hplain) fun σ H Q ⟨F, r, t, tv, h1, h2⟩ => by
    refine ⟨F, r, t, tv, h1, (sat_bind h2).mono (fun q r1 hq x v F1 H1 s1 z1 h3 ex ev => ?_) fun _ _ q => q⟩
    by_cases hL : isPL q r1 = true
    · rw [if_pos hL] at hq
      unfold isPL at hL
      split at hL
      · rename_i ds0 e2
        obtain ⟨d0, es, eg⟩ := plD?_cut e2
        obtain ⟨x2, a, vs0, C, dx, y1, y2, y3, y4, y5, _⟩ := Rl.mutPath (ext := []) (evs := []) rfl h3 es eg
        have : x2 = x := by rw [ex] at y1; exact (Option.some.inj (Option.some.inj y1)).symm
        subst this
        have : v = .ref a := by rw [ev] at y2; exact Option.some.inj y2
        subst this
        refine ⟨.inl ⟨rfl, vs0, .inl (.inl y4)⟩, F1, r1, t, tv, h3, (sat_bind hq).mono (fun d r2 hq v2 F2 H2 s2 z2 h4 => ?_) fun _ _ q => q.trans s1⟩
        unfold appP at hq
        cases es2 : slot? q.1 r2 with
        | none => rw [es2] at hq; exact hq.elim
        | some d2 =>
          rw [es2] at hq
          dsimp only at hq
          split at hq
          · rename_i ds eg2
            split at hq
            · rename_i hz
              obtain ⟨x3, a3, vs, C3, dx3, w1, w2, w3, w4, w5, w6, w7⟩ := Rl.mutPath (ext := [d]) (evs := [v2]) rfl h4 es2 eg2
              have : x3 = x2 := by rw [ex] at w1; exact (Option.some.inj (Option.some.inj w1)).symm
              subst this
              have ev2 := vget_mono (z2 rfl) ev
              have : a3 = a := by rw [ev2] at w2; exact (V.ref.inj (Option.some.inj w2)).symm
              subst this
              have h6 := w7 .lst (ds ++ [d]) (vs ++ [v2]) trivial trivial (Sel.last w6)
              refine ⟨a3, vs, v2, rfl, rfl, w4, by rw [← w6]; exact hz, ?_⟩
              exact hq .non F2 _ (s1.trans s2) (fun z => nomatch z) (h6.push (.leaf rfl))
            · exact hq.elim
          · exact hq.elim
      · cases hL
    · rw [if_neg hL] at hq; exact hq.elim
end
end VL

/-! VL38: a comparison whose left side is kept; dict displays. -/
namespace VL
open PySem PySem.Spec L2
section
variable {T : String → Option Addr} {io : Io} {X : Cx} {W : WX} {p p1 p2 : Bool} {pos : Pos}
section
variable {K : PySem.W.Frag} {G : Gm} {σ : L2.St} {H : Hp} {Q : VK}
end
/-- frozen where it stands -/
def mFz (a : M D) : M D := M.bind a fun d => M.ret d.frz
theorem qe_fz {e : Expr} {a : M D} (h : QE T io X W p e a) : QE T io X W p e (mFz a) := fun G g => PE.imp (h G g) fun σ H Q ⟨F, r, t, tv, h1, h2⟩ => by
  refine ⟨F, r, t, tv, h1, (sat_bind h2).mono (fun d r1 q v F1 H1 s1 z1 h3 => ?_) fun _ _ q => q⟩
  obtain ⟨F2, s2, h4, _⟩ := h3.freeze
  exact q v F2 H1 (s1.trans s2) z1 h4
/-! ### {k: v, ..}, the keys texts -/
end
section
variable {r : VS} {K : D → VS → Prop} {ex : String → VS → Prop}
/-! ### evaluated -/
def fzK (K : D → VS → Prop) (d : D) (r : VS) : Prop := K d.frz r
theorem Z32 {a : M D} : (mFz a r).sat K ex = (a r).sat (fzK K) ex := by unfold mFz; rw [sat_bind_eq]; rfl
theorem Z33 {d : D} : fzK K d r = K d.frz r := nr rfl
def appPK (m : M D) (K : D → VS → Prop) (ex : String → VS → Prop) (q : Pl) (r : VS) : Prop := isPL q r = true ∧ (m r).sat (fun d r => (appP q d r).sat K ex) ex
theorem Z27 {m : M Pl} {a : M D} : (mAppP m a r).sat K ex = (m r).sat (appPK a K ex) ex := by
  unfold mAppP; rw [sat_bind_eq]; congr 1; funext q r
  by_cases h : isPL q r = true
  · rw [if_pos h]
    exact propext ⟨fun z => ⟨h, (show ((M.bind a (fun d => appP q d)) r).sat K ex from z) |> fun z => by rw [sat_bind_eq] at z; exact z⟩, fun z => by rw [sat_bind_eq]; exact z.2⟩
  · rw [if_neg h]
    exact propext ⟨fun z => z.elim, fun z => (h z.1).elim⟩
theorem Z28 {a : M D} {q : Pl} : appPK a K ex q r = (isPL q r = true ∧ (a r).sat (fun d r => (appP q d r).sat K ex) ex) := nr rfl
theorem appP_ok {q : Pl} {d d0 : D} {ds : List D} (hs : slot? q.1 r = some d0) (he : d0.getO q.2 = some (.node true .lst ds)) (hz : ds.length < sizeLine) : (appP q d r).sat K ex = K .non (r.set q.1 (some (d0.putO q.2 (.node true .lst (ds ++ [d]))))) := by
  unfold appP; rw [hs]; dsimp only; rw [he]; dsimp only; rw [if_pos hz]; rfl
variable {KP : Pl → VS → Prop}
theorem Z29 {i : Nat} : (mPl i r).sat KP ex = ((slot? i r).isSome = true ∧ KP (i, []) r) := by
  unfold mPl
  cases slot? i r with
  | none => exact propext ⟨fun z => z.elim, fun z => nomatch z.1⟩
  | some d => exact propext ⟨fun z => ⟨rfl, z⟩, fun z => z.2⟩
def optP (o : Option Pl) (r : VS) (KP : Pl → VS → Prop) : Prop := match o with | some q => KP q r | none => False
theorem Z31 {q : Pl} : optP (some q) r KP = KP q r := nr rfl
theorem Z30 {L : List String} {f : String} {m : M Pl} : (mPlF L f m r).sat KP ex = (m r).sat (fun q r => optP (plF? L f q r) r KP) ex := by
  unfold mPlF; rw [sat_bind_eq]; congr 1; funext q r
  cases plF? L f q r <;> rfl
end
end VL

/-! VL39: methods called with keywords alone, or with every keyword's default. -/
namespace VL
open PySem PySem.Spec L2
section
variable {X : Cx} {CX : CXT} {k n : Nat} {C f : Addr} {m : Str} {fd : FuncData} {ps ks : List Str} {sp : Sp} {o : Expr} {kws : List Keyword} {ta : TE} {tk : TA} {apos pos : Pos} {pl : Sem Bool} {g : List Value → List Value → List Value} {gV : List V → List V → List V}
end
section
variable {T : String → Option Addr} {io : Io} {X : Cx} {W : WX} {p p1 p2 : Bool} {pos : Pos}
end
section
variable {r : VS} {ex : String → VS → Prop} {K : D → VS → Prop}
end
end VL

/-! VL40: sorted of triples of small numbers, no two alike. -/
namespace VL
open PySem PySem.Spec L2
def i3? : D → Option (List Int)
  | .node false .tup [.leaf (.int a), .leaf (.int b), .leaf (.int c)] => some [a, b, c]
  | _ => none
def i3 (d : D) : List Int := (i3? d).getD []
section
variable {K : PySem.W.Frag} {T : String → Option Addr}
end
end VL

/-! VL41: for i, x in enumerate(l). -/
namespace VL
open PySem PySem.Spec L2
section
variable {T : String → Option Addr} {io : Io} {X : Cx} {W : WX} {p : Bool} {pos : Pos}
end
section
variable {r : VS} {ex : String → VS → Prop} {KL : List D → VS → Prop}
end
end VL

/-! VL42: list(range(n)). -/
namespace VL
open PySem PySem.Spec L2
section
variable {T : String → Option Addr} {io : Io} {X : Cx} {W : WX} {p : Bool} {pos : Pos}
end
section
variable {r : VS} {ex : String → VS → Prop} {K : D → VS → Prop}
end
end VL

/-! VL43: the evaluator for l.index(d); lists of numbers. -/
namespace VL
open PySem PySem.Spec L2
section
variable {r : VS} {ex : String → VS → Prop} {K : D → VS → Prop}
end
theorem fSl_to {α : Type} {e : α → D} {o : Bool} (l : List α) (k : Nat) (hs : ∀ x ∈ l, (e x).shr = true) : fSl (.node o .lst (l.map e)) none (some (k : Int)) = some (.lst true ((l.take k).map e)) := by
  rw [fSl_map l none (some (k : Int)) hs, cutA_upto]
theorem fSl_frm {α : Type} {e : α → D} {o : Bool} (l : List α) (k : Nat) (hs : ∀ x ∈ l, (e x).shr = true) : fSl (.node o .lst (l.map e)) (some (k : Int)) none = some (.lst true ((l.drop k).map e)) := by
  rw [fSl_map l (some (k : Int)) none hs, cutA_from]
end VL

/-! VL44: l.pop(k), l a list of a slot. -/
namespace VL
open PySem PySem.Spec L2
section
variable {T : String → Option Addr} {io : Io} {X : Cx} {W : WX} {p p1 p2 p3 : Bool} {pos : Pos}
end
section
variable {r : VS} {ex : String → VS → Prop} {K : D → VS → Prop}
end
end VL

/-! VL45: order of data that are alike; is of truth values; range downwards. -/
namespace VL
open PySem PySem.Spec L2
/-! is of truth values -/
/-! for i in range(a, b, -1) -/
section
variable {T : String → Option Addr} {io : Io} {X : Cx} {W : WX} {p : Bool} {pos : Pos}
end
section
variable {r : VS} {ex : String → VS → Prop} {KL : List D → VS → Prop}
end
end VL

/-! VL46: calls whose first argument (or receiver) stands at a place, and may be turned. -/
namespace VL
open PySem PySem.Spec L2
section
variable {K : PySem.W.Frag} {T : String → Option Addr} {G : Gm} {F H : Hp} {r : VS} {t : List D} {σ : L2.St} {tv : List V}
end
section
variable {T : String → Option Addr} {io : Io} {X : Cx} {W : WX} {p : Bool} {pos : Pos}
end
/-! ### the evaluator -/
section
variable {r : VS} {ok : Fl → VS → Prop} {ex : String → VS → Prop} {K : D → VS → Prop}
end
end VL

/-! VL47: dicts at places: d[k] = v, del d[k], d.pop(k, x); a list's item as a place. -/
namespace VL
open PySem PySem.Spec L2
section
variable {T : String → Option Addr} {io : Io} {X : Cx} {W : WX} {p p2 : Bool} {pos : Pos}
/-- an item of a list at a place -/
def plI? (kd : D) (q : Pl) (r : VS) : Option Pl := match plD? q r, kd with
  | some (.node true .lst ds), .leaf (.int i) => (ixN ds.length i).bind fun n => if n < ds.length then some (q.1, q.2 ++ [n]) else none
  | _, _ => none
def mPlI (m : M Pl) (k : M D) : M Pl := M.bind m fun q => M.bind k fun kd r => match plI? kd q r with
  | some q' => .ok q' r
  | none => .no
theorem qp_ix {o e : Expr} {m : M Pl} {k : M D} (ho : QP T io X W o m) (he : QB T io X W true e k) (hs : PlainIx e := by exact fun _ _ => rfl) : QP T io X W (.Subscript o e pos) (mPlI m k) := fun G g =>
  PE.imp (pe_ix ix_seq (ho G g) (he G g) hs) fun σ H Q ⟨F, r, t, tv, h1, h2⟩ => by
    refine ⟨F, r, t, tv, h1, (sat_bind h2).mono (fun q r1 hq x v F1 H1 s1 z1 h3 ex ev => ?_) fun _ _ q => q⟩
    refine ⟨F1, r1, t, tv, h3, (sat_bind hq).mono (fun kd r2 hq kv F2 H2 s2 z2 h4 lk2 => ?_) fun _ _ q => q.trans s1⟩
    cases e1 : plI? kd q r2 with
    | none => rw [e1] at hq; exact hq.elim
    | some q' =>
      rw [e1] at hq
      unfold plI? at e1
      split at e1
      · rename_i ds i e2
        obtain ⟨n, en, e1⟩ := Option.bind_eq_some_iff.mp e1
        split at e1
        · rename_i hlt
          cases e1
          obtain ⟨d0, es, eg⟩ := plD?_cut e2
          obtain ⟨x2, a, vs, C, dx, y1, y2, y3, y4, y5, y6, _⟩ := Rl.mutPath (ext := []) (evs := []) rfl h4 es eg
          have : x2 = x := by rw [ex] at y1; exact (Option.some.inj (Option.some.inj y1)).symm
          subst this
          have ev2 := vget_mono (z2 rfl) ev
          have : v = .ref a := by rw [ev2] at y2; exact Option.some.inj y2
          subst this
          have hv : n < vs.length := by rw [← y6]; exact hlt
          have hat : atI vs i = some vs[n] := by
            unfold atI
            rw [← y6, en]
            show vs[n]? = _
            exact List.getElem?_eq_getElem hv
          refine .inl ⟨a, vs, i, vs[n], rfl, lk_leaf lk2, .inl (.inl y4), hat, hq x2 vs[n] F2 H2 (s1.trans s2) (z1.trans (z2 rfl)) h4 ex ?_⟩
          rw [vget_append ev2]
          show (match H2 a with
            | some (.lst vs) => vs[n]?
            | some (.tup vs) => vs[n]?
            | some (.dK kvs) => (kvs[n]?).map (·.2)
            | some (.dT kvs) => (kvs[n]?).map (·.2)
            | some (.ins _ _ fs) => (fs[n]?).map (·.2)
            | _ => none) = some vs[n]
          rw [y4]; exact List.getElem?_eq_getElem hv
        · cases e1
      · cases e1
end
end VL

/-! VL48: [.. for k in d ..], d a dict of a frozen slot, or of a field or an item of one. -/
namespace VL
open PySem PySem.Spec L2
section
variable {T : String → Option Addr} {io : Io} {X : Cx} {W : WX} {p p1 p2 p3 : Bool} {pos : Pos}
end
section
variable {r : VS} {ex : String → VS → Prop} {KL : List D → VS → Prop}
end
end VL

/-! VL49: tables with whole numbers as keys; tables at places; sorted(d) of whole numbers. -/
namespace VL
open PySem PySem.Spec L2
/-! ### tables: texts to anything -/
section
variable {α : Type}
abbrev Ti (α : Type) := List (Int × α)
variable {e : α → D} {l : Ti α} {t : Int} {o : Bool} {r : VS}
end
/-! ### tables -/
section
variable {α : Type} {e : α → D} {l : Ti α} {t : Int} {o : Bool} {r : VS}
end

/-! ### tables at places -/
section
variable {α : Type} {e : α → D} {r : VS} {ok : Fl → VS → Prop} {K : D → VS → Prop} {ex : String → VS → Prop}
end
/-! ### the evaluator -/
section
variable {r : VS} {ok : Fl → VS → Prop} {ex : String → VS → Prop} {K : D → VS → Prop} {KP : Pl → VS → Prop}
def plIR (q : Pl) (KP : Pl → VS → Prop) (kd : D) (r : VS) : Prop := optK (plI? kd q r) r KP
def plIM (k : M D) (KP : Pl → VS → Prop) (ex : String → VS → Prop) (q : Pl) (r : VS) : Prop := (k r).sat (plIR q KP) ex
theorem Z23 {m : M Pl} {k : M D} : (mPlI m k r).sat KP ex = (m r).sat (plIM k KP ex) ex := by
  unfold mPlI; rw [sat_bind_eq]; congr 1; funext q r; rw [sat_bind_eq]; unfold plIM; congr 1; funext kd r; unfold plIR; cases plI? kd q r <;> rfl
theorem Z24 {k : M D} {q : Pl} : plIM k KP ex q r = (k r).sat (plIR q KP) ex := nr rfl
theorem Z25 {kd : D} {q : Pl} : plIR q KP kd r = optK (plI? kd q r) r KP := nr rfl
end
/-! ### sorted(d), whole numbers -/
end VL

/-! VL50: d.setdefault(k, []).append(e), d at a place. -/
namespace VL
open PySem PySem.Spec L2
section
variable {K : PySem.W.Frag} {T : String → Option Addr} {F F' H H' : Hp}
theorem Ow.path : ∀ {ns : List Nat} {d : D} {v : V} {P : Ft}, Ow K T F H d v P → ∀ {d1 : D}, d.getO ns = some d1 →
    ∃ v1 P1 P2, vget H v ns = some v1 ∧ Ow K T F H d1 v1 P1 ∧ (∀ b, P1 b → P b) ∧ Dj P1 P2 ∧ ∀ H' : Hp, (∀ a, P2 a → H' a = H a) → vget H' v ns = some v1
  | [], d, v, P, h, d1, e => by
    have e' : d = d1 := by cases d <;> exact Option.some.inj e
    subst e'
    exact ⟨v, P, fun _ => False, rfl, h, fun _ z => z, fun _ _ z => z, fun H' _ => rfl⟩
  | n :: ns, d, v, P, h, d1, e => by
    cases h with
    | leaf _ _ => simp [D.getO] at e
    | fz _ _ => simp [D.getO] at e
    | @own a dx k vs ds _ P0 hn hl n1 n2 f1 f2 hp =>
      simp only [D.getO, if_true] at e
      cases q : ds[n]? with
      | none => rw [q] at e; cases e
      | some d0 =>
        rw [q] at e
        obtain ⟨v0, Q1, Q2, ev, o, dj, un, _⟩ := hl.focus q
        obtain ⟨v1, P1, P2, eg, o1, sub, dj1, keep⟩ := Ow.path (ns := ns) o e
        refine ⟨v1, P1, fun b => (b = a ∨ b = dx) ∨ P2 b, ?_, o1, fun b z => (hp b).mpr (.inr ((un b).mpr (.inl (sub b z)))), ?_, ?_⟩
        · simp only [vget]; rw [hn.kid, ev]; exact eg
        · intro b p z
          have p0 : P0 b := (un b).mpr (.inl (sub b p))
          rcases z with (rfl | rfl) | z
          · exact n1 p0
          · exact n2 p0
          · exact dj1 b p z
        · intro H' hk
          have ka : H' a = H a := hk a (.inl (.inl rfl))
          have kid : vkid H' (.ref a) n = vkid H (.ref a) n := by simp only [vkid]; rw [ka]
          simp only [vget]
          rw [kid, hn.kid, ev]
          exact keep H' fun b z => hk b (.inr z)
end
section
variable {T : String → Option Addr} {io : Io} {X : Cx} {W : WX} {pos : Pos}
end
end VL

/-! VL51: methods of a frozen receiver (any answer); the evaluator of setdefault(..).append. -/
namespace VL
open PySem PySem.Spec L2
section
variable {T : String → Option Addr} {io : Io} {X : Cx} {W : WX} {p p1 pp : Bool} {pos : Pos}
end
section
variable {r : VS} {ok : Fl → VS → Prop} {ex : String → VS → Prop} {K : D → VS → Prop}
end
end VL

/-! VL52: methods looked at, the answer all its own. -/
namespace VL
open PySem PySem.Spec L2
section
variable {T : String → Option Addr} {io : Io} {X : Cx} {W : WX} {p : Bool} {pos : Pos}
end
section
variable {r : VS} {ok : Fl → VS → Prop} {ex : String → VS → Prop} {K : D → VS → Prop}
end
end VL

/-! VL53: setdefault(k, []).append(x) of a table of lists; looks at the keys of tables. -/
namespace VL
open PySem PySem.Spec L2
section
variable {β : Type} {f : β → D}
end
end VL

/-! VL54: for x in a list that is given back: the list is held aside through the loop. -/
namespace VL
open PySem PySem.Spec L2
section
variable {X : Cx} {T : String → Option Addr} {W : WX}
end
def Gm.at (G : Gm) (i : Nat) (v : V) : Gm := ⟨G.H0, G.P0, G.F0, fun j => if j = i then some v else G.pin j, G.tb⟩
section
variable {T : String → Option Addr} {io : Io} {X : Cx} {W : WX} {pos : Pos}
theorem Rl.toAt {K : PySem.W.Frag} {G : Gm} {F H : Hp} {r : VS} {t : List D} {σ : L2.St} {tv : List V} {i : Nat} {v : V} (h : Rl K T G F r t σ tv H) (e : σ[i]? = some (some v)) : Rl K T (G.at i v) F r t σ tv H :=
  ⟨h.st, h.sub, h.keep, h.frz, h.base, (fun j w ew => by
    show σ[j]? = _
    have ew : (if j = i then some v else G.pin j) = some w := ew
    split at ew
    · rename_i ej
      rw [ej, e, ← ew]
    · exact h.pin j w ew), h.tab⟩
theorem Rl.ofAt {K : PySem.W.Frag} {G : Gm} {F H : Hp} {r : VS} {t : List D} {σ : L2.St} {tv : List V} {i : Nat} {v : V} (h : Rl K T (G.at i v) F r t σ tv H) (hp : ∀ w, G.pin i = some w → v = w) : Rl K T G F r t σ tv H ∧ σ[i]? = some (some v) :=
  ⟨⟨h.st, h.sub, h.keep, h.frz, h.base, (fun j w ew => by
    refine h.pin j w ?_
    show (if j = i then some v else G.pin j) = some w
    split
    · rename_i ej
      rw [hp w (ej ▸ ew)]
    · exact ew), h.tab⟩, h.pin i v (if_pos rfl)⟩
end
section
variable {r : VS} {ok : Fl → VS → Prop} {ex : String → VS → Prop}
end
end VL

/-! VL55: sorted of a list of tuples that are alike. -/
namespace VL
open PySem PySem.Spec L2
section
variable {K : PySem.W.Frag} {T : String → Option Addr}
end
end VL

/-! VL56: a.startswith(b), a.partition(b), int(text). -/
namespace VL
open PySem PySem.Spec L2
section
variable {T : String → Option Addr} {io : Io} {X : Cx} {W : WX} {p p1 p2 : Bool} {pos : Pos}
end
end VL

/-! VL57: sorted pairs of a number and a text. -/
namespace VL
open PySem PySem.Spec L2
abbrev Pt := Int × List Nat
end VL

/-! VL58: what startswith and partition answer. -/
namespace VL
open PySem PySem.Spec L2
end VL

/-! layer: a, b = l where l is a list -/
namespace VL
open PySem PySem.Spec L2
section
variable {T : String → Option Addr} {io : Io} {X : L2.Cx}
end
section
variable {r : VS} {ok : Fl → VS → Prop} {ex : String → VS → Prop}
end
end VL

/-! VL60: dicts whose keys are tuples: the rules that the hand layer lacks. -/
namespace VL
open PySem PySem.Spec L2
section
variable {X : Cx} {pins : List (Addr × Obj)} {σ : L2.St} {H : Hp} {s : Shared} {a b : Addr} {kvs : List (List Key × V)} {k : List Key} {A : Around} {E : Value → Shared → Prop}
theorem inv_drop (I : Inv X pins σ H s) (e : H a = some (.dT kvs)) {xs : List (List Key × Addr × Value)} (rel : L2.KT H kvs xs) (z : kvs.length ≤ sizeLine) (hd : (a == sysModules) = false) {h' : Heap} {t' : Nat} (dd' : h'.DictOfH (tupleKind (mixKind X.prog X.w)) a (withoutH xs k)) (hs : Heap.SameBut a s.heap h') :
    Inv X pins σ (upd H a (.dT (dropK kvs k))) { s with heap := h', toks := t' } := by
  obtain ⟨o, es, ep, hq, h2, h3, h4, _, h5⟩ := dd'
  exact d_write I (by rw [e]; exact True.intro) hs ⟨o, hq⟩ ⟨Nat.le_trans (dropK_le kvs k) z, hd, _, (L2.DX.KT_drop k rel).keeps (fun c ys ec => by rw [upd_ne (ne_of ec e (fun z => nomatch z))]; exact ec), o, es, ep, hq, h2, h3, h4, h5⟩
end
section
variable {X : Cx} {o i e : Expr} {pos tpos apos cpos : Pos} {td ty : TE}
end
end VL

/-! VL61: dicts whose keys are tuples: d[k], d.get(k, x), k in d, len(d), {}, d[k] = v, del d[k], d.pop(k). -/
namespace VL
open PySem PySem.Spec L2
section
variable {K : PySem.W.Frag} {T : String → Option Addr} {F H : Hp}
/-! looks -/
end
section
variable {T : String → Option Addr} {io : Io} {X : Cx} {W : WX} {p p1 p2 : Bool} {pos : Pos}
/-! writing at a place -/
end
end VL

/-! VL62: sorted(d), d a dict whose keys are tuples. -/
namespace VL
open PySem PySem.Spec L2
section
variable {K : PySem.W.Frag} {T : String → Option Addr} {H : Hp}
end
end VL

/-! VL63: sorted(d); tables whose keys are tuples; the evaluator. -/
namespace VL
open PySem PySem.Spec L2
section
variable {K : PySem.W.Frag} {T : String → Option Addr}
end
/-! ### tables -/
section
variable {κ α : Type} [DecidableEq κ]
variable {enc : κ → List Key} (hE : ∀ a b, enc a = enc b → a = b) {o : Bool} {e : α → D} {l : List (κ × α)} {k : κ} {x : α}
include hE
end
/-! ### the evaluator -/
section
variable {r : VS} {K : D → VS → Prop} {ok : Fl → VS → Prop} {ex : String → VS → Prop}
end
end VL

/-! VL64: [.. for k in d ..], d an owned dict with tuple keys: in a slot, or in a field of a slot's instance. -/
namespace VL
open PySem PySem.Spec L2
section
variable {K : PySem.W.Frag} {T : String → Option Addr}
end
section
variable {T : String → Option Addr} {io : Io} {X : Cx} {W : WX} {p p1 p2 p3 : Bool} {pos : Pos}
end
section
variable {r : VS} {ex : String → VS → Prop} {K : D → VS → Prop}
end
end VL

/-! VL65: o.m(a, b) where the parameters behind are keyword-only and take their defaults. -/
namespace VL
open PySem PySem.Spec L2
section
variable {X : Cx} {CX : CXT} {k n : Nat} {C f : Addr} {m : Str} {fd : FuncData} {ps : List Str} {sp : Sp} {o e : Expr} {es : List Expr} {ta : TE} {t : TA} {apos pos : Pos} {pl : Sem Bool}
end
section
variable {T : String → Option Addr} {io : Io} {X : Cx} {W : WX} {p p1 p2 : Bool} {pos : Pos}
end
end VL

/-! VL66: len(o), o of an own class with a __len__ that answers a number and raises nothing. -/
namespace VL
open PySem PySem.Spec L2
section
variable {X : Cx} {CX : CXT} {k : Nat} {C f : Addr} {fd : FuncData} {ps : List Str} {sp : Sp} {E : XK}
def rLenO (C : Addr) (sp : Sp) (E : XK) : List V → Hp → VK → Prop := fun xs H Q => ∃ a dx fs, xs = [.ref a] ∧ H a = some (.ins C dx fs) ∧ sp [.ref a] H (fun z H' => ∃ n : Int, z = .int n ∧ 0 ≤ n ∧ n < 2 ^ 63 ∧ Q (.int n) H') E
theorem call_lenO (hm : Meth X.K C "__len__" f) (F : FnOk X.prog X.w X.K X.mg X.base CX k f fd ps sp) (hr : Room (k + 1) X.A) (hb : Binds X.K fd ps []) (hx : Passes CX X.nox E) : CallR X (.builtin "len") (rLenO C sp E) := by
  intro pins s σ H xs us Q I r ⟨a, dx, fs, ex, ea, h⟩
  subst ex
  obtain ⟨u, eu, rx⟩ := r.one
  cases rx
  subst eu
  obtain ⟨mA, O, _, _, _, _⟩ := ins_get I.hok ea
  obtain ⟨od, J, _⟩ := O.look
  obtain ⟨m', F'⟩ := I.fr
  refine PySem.W.len_K F' I.ok.mod.kin J hm.at_ hm.fn (wpAny_call (codeAny_mono (F.run X.A.in1 X.stack s H ⟨[.ref a], []⟩ [.ref a] [.ref a] _ E hr.in1 I.env0.in1 (hb _ [.ref a] I.kIn ((F.len _ _ _ _ h) ▸ rfl)) (.cons rfl .nil) h) fun r s' hq => ?_))
  cases r with
  | error er => exact False.elim (hx pins σ H s er s' (I.wish _) hq)
  | ok fl =>
    cases fl with
    | ret u =>
      obtain ⟨v, H', I3, rv, n, rfl, n0, n1, q⟩ := I.after hq
      obtain ⟨t, rfl⟩ := rv
      exact ⟨⟨n0, n1⟩, .int n, H', I3.tok _, ⟨_, rfl⟩, q⟩
    | next => exact False.elim hq
    | brk => exact False.elim hq
    | cont => exact False.elim hq
end
def int63? : D → Bool
  | .leaf (.int n) => decide (0 ≤ n ∧ n < 2 ^ 63)
  | _ => false
def mLenO (c : String) (fn : Fn) (o : M D) : M D := M.bind o fun d => M.bind (M.ck (isC c "__len__" d)) fun _ => M.bind (runP fn (D.frzL [d])) fun z => M.bind (M.ck (int63? z)) fun _ => M.ret z
section
variable {T : String → Option Addr} {io : Io} {X : Cx} {W : WX} {p : Bool} {pos : Pos}
theorem int63?_eq {z : D} (h : int63? z = true) : ∃ n : Int, z = .int n ∧ 0 ≤ n ∧ n < 2 ^ 63 := by
  unfold int63? at h
  split at h
  · rename_i n
    have := of_decide_eq_true h
    exact ⟨n, rfl, this.1, this.2⟩
  · cases h
theorem qe_lenO {c : String} {C f : Addr} {k : Nat} {fd : FuncData} {ps : List Str} {fn : Fn} {o : Expr} {x : Str} {pp : Pos} {mo : M D} (hT : T c = some C) (hc : Cls X.K C) (hm : Meth X.K C "__len__" f)
    (F : FnOk X.prog X.w X.K X.mg X.base (L2.CX X.prog X.w) k f fd ps (spV X.K T 1 [] fn)) (hr : Room (k + 1) X.A) (hb : Binds X.K fd ps []) (hg : Gl X x) (hmg : X.mg x = none) (hv : bootBuiltins x = some (.builtin "len")) (ho : QB T io X W p o mo) (hn : x ≠ "__name__" := by decide) (hdb : (x == ("__debug__" : Str)) = false := by decide)
    (he : starEach [o] X.env = (false, eval o X.env) :: starEach [] X.env := by rfl) (hpl : (backTo pos (starEach [] X.env)).any (·.1) = false := by rfl) :
    QE T io X W p (.Call (.Name x pp) [o] [] pos) (mLenO c fn mo) := fun G g' =>
  PE.imp (pe_callB (call_lenO (E := fun _ _ _ => False) hm F hr hb (fun _ _ _ _ _ _ _ c => by obtain ⟨_, _, _, _, _, _, _, _, _, _, _, _, h⟩ := c; exact h.elim)) hg hmg hv (pa_cons (ho G g') pa_nil he) hn hdb he hpl) fun σ H Q ⟨F0, r, t, tv, h1, h2⟩ => by
    refine ⟨F0, r, t, tv, h1, (sat_bind h2).mono (fun d r1 q v F1 H1 s1 z1 h3 lk => ?_) fun _ _ q => q⟩
    obtain ⟨hi, q⟩ := sat_ck (sat_bind q)
    obtain ⟨a', dx, fs, rfl, hH, hl⟩ := isC_lk hi hT lk h3.sub
    refine ⟨a', dx, fs, rfl, hH, ?_⟩
    have q2 := (runP_sat (ex' := exP X.K T G (fun _ _ _ _ => False) σ t tv F1) (sat_bind q))
    refine callB_imp (np := 1) (W := fun _ _ _ _ => False) (ds := [d]) (.cons lk .nil) rfl h3 (q2.mono (fun d' r' q v H' z3 h5 => ?_) fun _ _ q => q)
    obtain ⟨hz, q⟩ := sat_ck (sat_bind q)
    obtain ⟨n, rfl, n0, n1⟩ := int63?_eq hz
    have ev := lk_leaf h5.top
    subst ev
    exact ⟨n, rfl, n0, n1, q _ F1 H' s1 (fun z => (z1 z).trans z3) h5⟩
end
section
variable {r : VS} {K : D → VS → Prop} {ex : String → VS → Prop}
def lenR (K : D → VS → Prop) (z : D) (r : VS) : Prop := int63? z = true ∧ K z r
def lenOK (c : String) (fn : Fn) (K : D → VS → Prop) (ex : String → VS → Prop) (d : D) (r : VS) : Prop := isC c "__len__" d = true ∧ ((fn [d.frz]).toP r).sat (lenR K) ex
theorem Z21 {c : String} {fn : Fn} {o : M D} : (mLenO c fn o r).sat K ex = (o r).sat (lenOK c fn K ex) ex := by
  unfold mLenO; rw [sat_bind_eq]; congr 1; funext d r; rw [sat_bind_eq, Z39]; unfold lenOK; congr 1
  rw [sat_bind_eq]
  show (runP fn [d.frz] r).sat _ ex = ((fn [d.frz]).toP r).sat _ ex
  congr 1; funext z r; rw [sat_bind_eq, Z39]; rfl
theorem Z22 {c : String} {fn : Fn} {d : D} : lenOK c fn K ex d r = (isC c "__len__" d = true ∧ ((fn [d.frz]).toP r).sat (lenR K) ex) := nr rfl
theorem lenR_nat {n : Nat} : lenR K (.int (n : Nat)) r = (((n : Nat) : Int) < 9223372036854775808 ∧ K (.int (n : Nat)) r) := by
  unfold lenR int63?
  refine propext ⟨fun z => ⟨(of_decide_eq_true z.1).2, z.2⟩, fun z => ⟨decide_eq_true ⟨by omega, z.1⟩, z.2⟩⟩
end
end VL

/-! VL67: for k in d: a loop over a dict in a slot; its body raises nothing. -/
namespace VL
open PySem PySem.Spec L2
section
variable {T : String → Option Addr} {io : Io} {X : Cx} {W : WX} {pos : Pos}
end
section
variable {r : VS} {ok : Fl → VS → Prop} {ex : String → VS → Prop}
end
end VL

/-! VL68: sets of texts: what stands at the set, adding, the loop over a list, set(list), sorted. -/
namespace VL
open PySem PySem.Spec L2 PyProof.Rows PySem.Froz
/-- the set of the texts l, in some order -/
def SetTS (P : Program) (w : World) (h : Heap) (a : Addr) (l : List Str) : Prop :=
  ∃ D : SD, h.get? a = some (sObj "set" D) ∧ TxOk P w D l ∧ l.Nodup ∧ Ris D.2.2.place.toList ∧ (w.params.followText "set-order" = true ∨ D.2.2.led = true)
section
variable {P : Program} {w : World} {A : Around} {E : Value → Shared → Prop} {s : Shared} {a : Addr} {l : List Str}
theorem SetTS.at {h h' : Heap} (R : SetTS P w h a l) (k : ∀ o, h.get? a = some o → h'.get? a = some o) : SetTS P w h' a l := by
  obtain ⟨D, e, r⟩ := R
  exact ⟨D, k _ e, r⟩
end
end VL

/-! VL69: sorted(set(l)) of a list of texts. -/
namespace VL
open PySem PySem.Spec L2 PyProof.Rows PySem.Froz
section
variable {P : Program} {w : World} {A : Around} {E : Value → Shared → Prop} {s : Shared} {a : Addr} {l : List Str}
end
/-! sorted(set(e)) -/
end VL

/-! VL70: the set of texts as a tracked thing: add, sorted, the set comprehension of texts. -/
namespace VL
open PySem PySem.Spec L2 PyProof.Rows PySem.Froz
section
variable {X : Cx}
end
end VL

/-! VL71: sorted({el for g in src if c}) of texts; what stands in the braces changes nothing. -/
namespace VL
open PySem PySem.Spec L2 PyProof.Rows
section
variable {T : String → Option Addr} {io : Io} {X : Cx} {W : WX} {p : Bool}
end
/-! ### the evaluator -/
section
variable {own : List Nat} {g : Gt} {c : M Bool} {el : M D} {r : VS}
end
end VL

/-! VL72: x.upper(). -/
namespace VL
open PySem PySem.Spec L2 PyProof.Rows
section
variable {T : String → Option Addr} {io : Io} {X : Cx} {W : WX} {p : Bool} {cpos : Pos}
end
end VL

/-! VL73: x in TABLE, TABLE a written dict of the module with text keys. -/
namespace VL
open PySem PySem.Spec L2 PyProof.Rows
section
variable {T : String → Option Addr} {io : Io} {X : Cx} {W : WX} {p : Bool} {pos : Pos}
end
end VL

/-! VL74: targets x.f within a tuple; place.m(k=..); properties whose answer is all its own. -/
namespace VL
open PySem PySem.Spec L2 PyProof.Rows
section
variable {T : String → Option Addr} {io : Io} {X : Cx} {W : WX} {p : Bool} {pos : Pos}
end
section
variable {r : VS} {ok : Fl → VS → Prop} {ex : String → VS → Prop} {K : D → VS → Prop}
end
end VL

/-! VL75: x.m(e, ..) where the arguments are leaves and may look at x. -/
namespace VL
open PySem PySem.Spec L2 PyProof.Rows
section
variable {T : String → Option Addr} {io : Io} {X : Cx} {W : WX} {p : Bool} {pos : Pos}
end
end VL

/-! VL76: classmethods read off their class; a class made through a pinned name; two except clauses. -/
namespace VL
open PySem PySem.Spec L2 PyProof.Rows
/-! ### try with two clauses -/
section
variable {T : String → Option Addr} {io : Io} {X : Cx} {W : WX} {p : Bool} {pos : Pos}
/-! ### C(..) through a pinned name -/
/-! ### C.m(..), m a classmethod -/
end
end VL

/-! VL77: the def of a classmethod; the head's facts of properties, classmethods, tables together. -/
namespace VL
open PySem PySem.Spec L2
/-! ### the head -/
structure GD where
  ok : PySem.W.Frag → Bool
  adr : PySem.W.Frag → Addr
  val : He.FnW
/-- a classmethod: its class, its name, its def -/
structure CmD where
  cls : Str
  m : Str
  name : Str
  qual : Str
  params : Arguments
  body : List Stmt
  scope : Scope
def cmA (K : PySem.W.Frag) (C m : Str) : Addr := He5.wf K (He.ga K C) "classmethod" m
def CmD.val (d : CmD) : He.FnW := some (d.name, d.qual, d.params, .stmts d.body, d.scope, mainGlobals, [], builtinsNs)
def CmD.ok (K : PySem.W.Frag) (d : CmD) : Bool := He5.wrapB K (He.ga K d.cls) "classmethod" "classmethod.__get__" d.m && (PySem.W.fnIn K (cmA K d.cls d.m) && (PySem.W.readsIn K (He.ga K d.cls) (.type "type") && (decide (PySem.W.specialIn K (.ref (He.ga K d.cls)) "__getattribute__" = some (some (.builtin "type.__getattribute__"))) &&
  (PySem.W.keepIn K (.ref (cmA K d.cls d.m)) && (match K.lookup (cmA K d.cls d.m) with
    | some ⟨_, _, .func fd, _⟩ => PySem.W.codeIn K fd.code d.qual && (He.dflB K fd.defaults [] && He.kwdB K fd.kwdefaults [])
    | _ => false)))))
structure CmOk (K : PySem.W.Frag) (d : CmD) : Prop where
  cr : ClX.CRead K (He.ga K d.cls) (.type "type")
  cm : ClX.CMet K (He.ga K d.cls) (.type "type") d.m (He.ma K (He.ga K d.cls) d.m) (cmA K d.cls d.m)
theorem CmD.funD {K : PySem.W.Frag} {d : CmD} (e : fnWa K (cmA K d.cls d.m) = d.val) (c : d.ok K = true) : CmOk K d ∧ ∃ fd, FunD K d.name d.qual d.params d.body d.scope [] [] (cmA K d.cls d.m) fd := by
  obtain ⟨c0, c1⟩ := He.ba c
  obtain ⟨c2, c3⟩ := He.ba c1
  obtain ⟨c4, c5⟩ := He.ba c3
  obtain ⟨c6, c7⟩ := He.ba c5
  obtain ⟨kp, c2'⟩ := He.ba c7
  refine ⟨⟨⟨c4, of_decide_eq_true c6⟩, He5.cmet_of c0 c2⟩, ?_⟩
  unfold fnWa at e
  cases q : K.lookup (cmA K d.cls d.m) with
  | none => rw [q] at c2'; cases c2'
  | some o =>
    obtain ⟨oc, od, dt, osl⟩ := o
    rw [q] at c2' e
    cases dt with
    | func fd =>
      obtain ⟨n1, n2, n3, n4, n5, n6, n7, n8, n9, n10, n11, n12, n13, n14, n15⟩ := fd
      have e2 : (some (n1, n2, n3, n4, n5, n6, n7, n15) : He.FnW) = some (d.name, d.qual, d.params, .stmts d.body, d.scope, mainGlobals, [], builtinsNs) := e
      simp only [Option.some.injEq, Prod.mk.injEq] at e2
      obtain ⟨h1, h2, h3, h4, h5, h6, h7, h8⟩ := e2
      subst h1 h2 h3 h4 h5 h6 h7 h8
      have c3 : (PySem.W.codeIn K n13 d.qual && (He.dflB K n8 [] && He.kwdB K n9 [])) = true := c2'
      obtain ⟨k1, k2⟩ := He.ba c3
      obtain ⟨k3, k4⟩ := He.ba k2
      exact ⟨_, ⟨oc, od, n8, n9, n10, n11, n12, n13, n14, osl, rfl, q, k1, He.dflB_ok k3, He.kwdB_ok k4⟩, kp⟩
    | _ => cases c2'
def SaysG (gs : List GD) (K : PySem.W.Frag) : Prop := (gs.map fun d => (d.ok K, fnWa K (d.adr K))) = gs.map fun d => (true, d.val)
theorem SaysG.get {gs : List GD} {K : PySem.W.Frag} (c : SaysG gs K) (i : Nat) {d : GD} (h : gs[i]? = some d := by rfl) : d.ok K = true ∧ fnWa K (d.adr K) = d.val := by
  have e2 := congrArg (fun l : List (Bool × He.FnW) => l[i]?) (show _ = _ from c)
  simp only [List.getElem?_map, h, Option.map_some, Option.some.injEq, Prod.mk.injEq] at e2
  exact e2
section
variable {r : VS} {ok : Fl → VS → Prop} {ex : String → VS → Prop}
end
end VL

/-! VL78: C(.., x, ..), x a name whose data the making takes and gives back (its def gives back slots 0 and j + 1). -/
namespace VL
open PySem PySem.Spec L2
section
variable {T : String → Option Addr} {io : Io} {X : Cx} {W : WX} {p : Bool} {pos : Pos}
end
section
variable {r : VS} {ex : String → VS → Prop} {K : D → VS → Prop}
end
section
variable {T : String → Option Addr} {io : Io} {X : Cx} {W : WX} {pos : Pos}
end
section
variable {r : VS} {ex : String → VS → Prop} {KL : List D → VS → Prop}
end
end VL

/-! VL79: sorted({el for g in src if c}) of numbers (VL70 and VL71 turned to numbers); comprehensions over what is looked at. -/
namespace VL
open PySem PySem.Spec L2 PyProof.Rows PySem.Froz
section
variable {X : Cx}
end
section
variable {T : String → Option Addr} {io : Io} {X : Cx} {W : WX} {p : Bool}
end
/-! ### the evaluator -/
section
variable {own : List Nat} {g : Gt} {c : M Bool} {el : M D} {r : VS}
end
end VL

/-! VL80: comprehensions over what is looked at (a field, an item): list or tuple of shared things. -/
namespace VL
open PySem PySem.Spec L2
section
variable {T : String → Option Addr} {io : Io} {X : Cx} {W : WX} {pos : Pos}
end
section
variable {r : VS} {ex : String → VS → Prop} {KL : List D → VS → Prop}
end
end VL

/-! VL81: a number in a list or tuple of numbers. -/
namespace VL
open PySem PySem.Spec L2
section
variable {K : PySem.W.Frag} {T : String → Option Addr}
end
end VL

/-! VL82: len of a dict with text or number keys. -/
namespace VL
open PySem PySem.Spec L2
section
variable {X : Cx} {K : PySem.W.Frag} {T : String → Option Addr}
end
end VL

/-! VL83: [.. for .. in o], o of an own class whose __iter__ answers iter(self.f), self.f a dict with text or number keys. -/
namespace VL
open PySem PySem.Spec L2 PyProof.Rows
section
variable {X : Cx}
end
section
variable {X : Cx}
/-- a field of an instance of the class at C -/
def tFldC (C : Addr) (te : TE) (f : Str) : TE := fun σ H Q => te σ H fun x H1 => ∃ a dx fs v, x = .ref a ∧ H1 a = some (.ins C dx fs) ∧ fs.lookup f = some v ∧ Q v H1
end
section
variable {T : String → Option Addr} {io : Io} {X : Cx} {W : WX} {p p1 p2 p3 : Bool} {pos : Pos}
end
end VL

/-! VL84: a suite that names an item of an owned dict in a field a second time: x = self.f[k]; while c: x = x[1:]; if c2: del self.f[k] else: self.f[k] = x. -/
namespace VL
open PySem PySem.Spec L2
section
variable {K : PySem.W.Frag} {T : String → Option Addr} {F F2 H H2 : Hp}
end
section
variable {X : Cx}
theorem PT.ex {e : Expr} {α : Type} {P : α → Prop} {t : α → TT} (h : ∀ a, P a → PT X e (t a)) : PT X e fun σ H Q => ∃ a, P a ∧ t a σ H Q := ⟨fun pins s σ H Q I ⟨a, p, q⟩ => (h a p).run pins s σ H Q I q⟩
theorem PSs.or {b : List Stmt} {t1 t2 : TS} (h1 : PSs X b t1) (h2 : PSs X b t2) : PSs X b fun D σ H => t1 D σ H ∨ t2 D σ H := ⟨fun pins s σ H D I q => q.elim (h1.run pins s σ H D I) (h2.run pins s σ H D I)⟩
end
section
variable {K : PySem.W.Frag} {T : String → Option Addr} {F H : Hp} {G : Gm} {r : VS} {t : List D} {σ : L2.St} {tv : List V}
end
section
variable {T : String → Option Addr} {io : Io} {X : Cx} {W : WX}
end
end VL

/-! VL85: list(d), d a dict with text or number keys. -/
namespace VL
open PySem PySem.Spec L2
section
variable {T : String → Option Addr} {io : Io} {X : Cx} {W : WX} {pos : Pos}
end
end VL

/-! VL86: for k in self.f: a loop over a dict in a field (or an item) of a frozen slot; its body raises nothing. -/
namespace VL
open PySem PySem.Spec L2
section
variable {T : String → Option Addr} {io : Io} {X : Cx} {W : WX} {pos : Pos}
end
section
variable {r : VS} {ok : Fl → VS → Prop} {ex : String → VS → Prop}
end
end VL

/-! VL87: sorted of tuples by a lambda that tells their first two items. -/
namespace VL
open PySem PySem.Spec PyProof.Rows L2 LamX
section
variable {prog : Program} {w : World} {A : Around} {E : Value → Shared → Prop} {s : Shared}
end
section
variable {X : Cx} {pins : List (Addr × Obj)} {σ : L2.St} {H : Hp} {s : Shared}
end
end VL

/-! VL88: sorted(l, key=lambda x: (x[0], x[1])), the rule. -/
namespace VL
open PySem PySem.Spec PyProof.Rows L2 LamX
theorem rd_extN {H H' : Hp} (e : ExtN H H') {a : Addr} {u : HO} (hu : ∀ ps, u ≠ .tbl ps) (h : Rd H a u) : Rd H' a u := by
  rcases h with h | ⟨o, h⟩
  · exact .inl (e _ _ h hu)
  · exact .inr ⟨o, e _ _ h fun ps z => nomatch z⟩
theorem sqL_extN {K : PySem.W.Frag} {H H' : Hp} (e : ExtN H H') {a : Addr} {xs : List V} (h : SqL K H a xs) : SqL K H' a xs := h.imp (rd_extN e fun ps z => nomatch z) id
theorem sqT_extN {K : PySem.W.Frag} {H H' : Hp} (e : ExtN H H') {a : Addr} {xs : List V} (h : SqT K H a xs) : SqT K H' a xs := h.imp (rd_extN e fun ps z => nomatch z) id
mutual
theorem dp_extN {K : PySem.W.Frag} {H H' : Hp} (e : ExtN H H') : ∀ (d : PyData) (v : V), Dp K H v d → Dp K H' v d
  | .none, _, h => by cases h; exact .non
  | .bool b, _, h => by cases h; exact .bl b
  | .int i, _, h => by cases h; exact .int i
  | .str x, _, h => by cases h; exact .str x
  | .list ds, _, h => by cases h with | lst h1 h2 => exact .lst (sqL_extN e h1) (dpAll_extN e ds _ h2)
  | .tuple ds, _, h => by cases h with | tup h1 h2 => exact .tup (sqT_extN e h1) (dpAll_extN e ds _ h2)
  | .dict _, _, h => by cases h
theorem dpAll_extN {K : PySem.W.Frag} {H H' : Hp} (e : ExtN H H') : ∀ (ds : List PyData) (vs : List V), DpAll K H vs ds → DpAll K H' vs ds
  | [], _, h => by cases h; exact .nil
  | d :: ds, _, h => by cases h with | cons h1 h2 => exact .cons (dp_extN e d _ h1) (dpAll_extN e ds _ h2)
end
section
variable {X : Cx} {tb : List (Addr × Str)} {e : Expr} {te : TE} {x : Str} {c P : Addr} {k : Nat} {params : Arguments} {scope : Scope} {p1 p2 p3 p4 p5 p6 p7 p8 lpos kpos pos : Pos} {j1 j2 x1}
end
end VL

/-! VL89: sorted by a lambda as an expression of the layer. -/
namespace VL
open PySem PySem.Spec L2 LamX
section
variable {K : PySem.W.Frag} {T : String → Option Addr} {F H : Hp}
theorem OwS.plain {r : List (Option D)} {σ : St} {P : Ft} (h : OwS K T F H r σ P) {a : Addr} {w : HO} (p : P a) (ew : H a = Option.some w) : PlainO w := by
  induction h with
  | nil e => exact (e a p).elim
  | none _ ih => exact ih p
  | some o _ dj un ih =>
    rcases (un a).mp p with p | p
    · exact Ow.plain_both.1 _ _ _ o a w p ew
    · exact ih p
end
section
variable {K : PySem.W.Frag} {T : String → Option Addr} {G : Gm} {σ : L2.St} {H : Hp} {Q : VK} {W : WX} {p : Bool}
end
section
variable {T : String → Option Addr} {io : Io} {X : Cx} {W : WX} {p : Bool} {e : Expr} {m : M D} {x : Str} {c P : Addr} {k : Nat} {params : Arguments} {scope : Scope} {p1 p2 p3 p4 p5 p6 p7 p8 lpos kpos pos : Pos} {j1 j2 x1}
end
end VL

/-! VL90: defs that reach a lambda; calls of such. -/
namespace VL
open PySem PySem.Spec L2 LamX
section
variable {T : String → Option Addr}
end
section
variable {T : String → Option Addr}
end
end VL

/-! VL91: calls of defs that may write the tables. -/
namespace VL
open PySem PySem.Spec L2 LamX
section
variable {K : PySem.W.Frag} {T : String → Option Addr} {F F' H H' : Hp}
end
section
variable {T : String → Option Addr} {io : Io} {X : Cx} {W : WX} {p : Bool} {pos : Pos}
end
end VL

/-! VL92: methods that may write the tables, the answer all its own. -/
namespace VL
open PySem PySem.Spec L2 LamX
section
variable {K : PySem.W.Frag} {T : String → Option Addr} {F H : Hp}
end
section
variable {T : String → Option Addr} {io : Io} {X : Cx} {W : WX} {p : Bool} {pos : Pos}
end
end VL

/-! VL93: the law's end with tables of code objects. -/
namespace VL
open PySem PySem.Spec L2 LamX
end VL

/-! VL94: a def whose code object is known by its name. -/
namespace VL
open PySem PySem.Spec L2 LamX
section
variable {P : Program} {w : World} {K : PySem.W.Frag} {mg : Str → Option Value} {base : Heap} {x qual : Str} {params : Arguments} {body : List Stmt} {scope : Scope} {dvs : List V} {kws : List (Str × V)} {f : Addr} {fd : FuncData}
end
section
variable {T : String → Option Addr}
end
end VL

/-! VL95: sorted of triples whose first two are a number and a text, no two alike there. -/
namespace VL.STy
open PySem PySem.Spec PyProof.Rows SrtO
abbrev KY := Int × Str
section
variable {prog : Program} {w : World} {A : Around} {E : Value → Shared → Prop} {s : Shared}
def IsTy (h : Heap) (v : Value) (z : KY) : Prop := ∃ a o t t2 u n, v = .ref a ∧ h.get? a = some o ∧ o.cls = .type "tuple" ∧ o.data = .seq #[.int z.1 t, .str z.2 t2, u] n
theorem IsTy.keeps {h h' : Heap} {v : Value} {z : KY} (p : IsTy h v z) (k : ∀ b o, h.get? b = some o → o.cls = .type "tuple" → h'.get? b = some o) : IsTy h' v z := by
  obtain ⟨a, o, t, t2, u, n, e, ho, hc, hd⟩ := p
  exact ⟨a, o, t, t2, u, n, e, k _ _ ho hc, hc, hd⟩
end
end VL.STy
namespace L2
open PySem PySem.Spec PyProof.Rows VL.STy
/-- the items are triples whose firsts are these -/
abbrev TyAt (K : PySem.W.Frag) (H : Hp) : List V → List KY → Prop := Paired fun x z => ∃ t u, x = V.ref t ∧ SqT K H t [.int z.1, .str z.2, u]
theorem TyAt.len {K : PySem.W.Frag} {H : Hp} : ∀ {xs : List V} {ks : List KY}, TyAt K H xs ks → xs.length = ks.length
  | _, _, .nil => rfl
  | _, _, .cons _ t => congrArg (· + 1) (TyAt.len t)
section
variable {X : Cx}
end
end L2
namespace VL
open PySem PySem.Spec L2 VL.STy
section
variable {K : PySem.W.Frag} {T : String → Option Addr}
end
end VL

/-! VL96: the head's facts of properties and of tables of code objects together. -/
namespace VL
open PySem PySem.Spec L2
end VL

/-! VL97: tuples of texts and dicts of the module: T[i], len(T), T.index(x), for .. in D[k], zip(D[k], t), f = D[k]; f(..). -/
namespace VL
open PySem PySem.Spec L2
/-! ### what K holds -/
/-- a tuple of these texts -/
def TupC (K : PySem.W.Frag) (a : Addr) (xs : List Str) : Prop := ∃ (o : Obj) (its : Array Value) (n : Nat), K.lookup a = some o ∧ o.cls = .type "tuple" ∧ o.dict = none ∧ o.data = .seq its n ∧ its.size ≤ sizeLine ∧ Vals (xs.map V.str) its.toList
theorem TupC.ty {K : PySem.W.Frag} {a : Addr} {xs : List Str} (h : TupC K a xs) (H : Hp) : tyV K "tuple" (.ref a) H := by
  obtain ⟨o, its, n, h1, h2, h3, h4, h5, h6⟩ := h
  exact .inr (.inl ⟨rfl, o, h1, h2, h3⟩)
abbrev Rows := List (Str × List Str)
/-! ### the functions -/
section
variable {T : String → Option Addr} {io : Io} {X : Cx} {W : WX} {p p2 : Bool} {pos : Pos} {a : Addr} {xs : List Str}
end
/-! ### f = D[k], then a suite that calls f -/
section
variable {K : PySem.W.Frag} {T : String → Option Addr} {G : Gm} {F H : Hp} {r : VS} {t : List D} {σ : L2.St} {tv : List V}
def pinG (G : Gm) (ix : Nat) (v : V) : Gm := ⟨G.H0, G.P0, G.F0, fun j => if j = ix then some v else G.pin j, G.tb⟩
theorem Pins.pin {io : Io} (g : Pins io G) {ix : Nat} {v : V} (hi : ix ∉ io.l) : Pins ⟨ix :: io.l, (ix, v) :: io.k, io.tb⟩ (pinG G ix v) ∧ ∀ w, G.pin ix ≠ some w := by
  have hp : ∀ w, G.pin ix ≠ some w := fun w e => hi (g.1 ix w e)
  refine ⟨⟨fun j w e => ?_, fun q hq => ?_, g.2.2.1, g.2.2.2⟩, hp⟩
  · have e : (if j = ix then some v else G.pin j) = some w := e
    by_cases z : j = ix
    · rw [z]; exact List.mem_cons_self
    · rw [if_neg z] at e; exact List.mem_cons_of_mem _ (g.1 j w e)
  · show (if q.1 = ix then some v else G.pin q.1) = some q.2
    rcases List.mem_cons.mp hq with rfl | hq
    · exact if_pos rfl
    · have := g.2.1 q hq
      rw [if_neg (fun z => hp _ (by rw [← z]; exact this))]
      exact this
end
section
variable {T : String → Option Addr} {io : Io} {X : Cx} {W : WX} {p p2 : Bool} {pos : Pos}
end
/-! ### evaluated -/
section
variable {r : VS} {ex : String → VS → Prop} {KL : List D → VS → Prop} {ok : Fl → VS → Prop}
end
end VL

/-! VL98: a second name of an owned item: x = place; body. While the body runs, x owns the item and the rest stands untouched. -/
namespace VL
open PySem PySem.Spec L2
section
variable {K : PySem.W.Frag} {T : String → Option Addr} {G : Gm} {F H : Hp} {r : VS} {t : List D} {σ : L2.St} {tv : List V}
/-- of the top temporary one part goes on alone; the rest is kept aside and comes back at the end -/
theorem Rl.lend {ns : List Nat} {d0 d1 : D} {x : V} (h : Rl K T G F r (d0 :: t) σ (x :: tv) H) (eg : d0.getO ns = some d1) :
    ∃ (v1 : V) (P1 : Ft), vget H x ns = some v1 ∧ Rl K T ⟨H, P1, F, G.pin, G.tb⟩ F r (d1 :: t) σ (v1 :: tv) H ∧
      ∀ (F' H' : Hp) (r' : VS) (t' : List D) (σ' : L2.St) (tv' : List V) (d1' : D), Rl K T ⟨H, P1, F, G.pin, G.tb⟩ F' r' (d1' :: t') σ' (v1 :: tv') H' → Rl K T G F' r' (d0.putO ns d1' :: t') σ' (x :: tv') H' := by
  obtain ⟨⟨Ps, Pt, h1, h2, dj, hq⟩, b1, b2, b3, b4, b5, b6⟩ := h
  cases h2 with
  | @cons _ _ _ _ _ A B o1 g2 djab un =>
    obtain ⟨v1, Q1, Q2, ev, of, dj1, un1, wand⟩ := Ow.focus o1 eg
    have q2 : ∀ a, Q2 a → ¬ (Ps a ∨ (Q1 a ∨ B a)) := fun a z w => by
      rcases w with w | w | w
      · exact dj a w ((un a).mpr (.inl ((un1 a).mpr (.inr z))))
      · exact dj1 a w z
      · exact djab a ((un1 a).mpr (.inr z)) w
    have inc : ∀ a, (Ps a ∨ (Q1 a ∨ B a)) → G.P0 a ∨ G.H0 a = none := fun a w => by
      rcases w with w | w | w
      · exact hq a (.inl w)
      · exact hq a (.inr ((un a).mpr (.inl ((un1 a).mpr (.inl w)))))
      · exact hq a (.inr ((un a).mpr (.inr w)))
    have fresh : ∀ a, H a = none → G.P0 a ∨ G.H0 a = none := fun a e => by
      by_cases z : G.P0 a
      · exact .inl z
      · cases e0 : G.H0 a with
        | none => exact .inr rfl
        | some o => have := b2 a o e0 z; rw [e] at this; cases this
    refine ⟨v1, fun a => Ps a ∨ (Q1 a ∨ B a), ev, ⟨⟨Ps, fun a => Q1 a ∨ B a, h1, .cons of g2 (fun a p q => djab a ((un1 a).mpr (.inl p)) q) fun _ => Iff.rfl, fun a p q => ?_, fun a p => .inl p⟩, b1, fun a o e _ => e, fun a o e => .inl e, Same.refl _, b5, b6⟩, ?_⟩
    · rcases q with q | q
      · exact dj a p ((un a).mpr (.inl ((un1 a).mpr (.inl q))))
      · exact dj a p ((un a).mpr (.inr q))
    intro F' H' r' t' σ' tv' d1' h'
    obtain ⟨⟨Ps', Pt', k1, k2, djk, hk'⟩, c1, c2, c3, c4, c5, c6⟩ := h'
    cases k2 with
    | @cons _ _ _ _ _ R1 R2 n1 n2 djn unn =>
      have q2at : ∀ a, Q2 a → F a = none ∧ ∃ o, H a = some o := fun a z => o1.at ((un1 a).mpr (.inr z))
      have hk : ∀ a, Q2 a → H' a = H a := fun a z => by
        obtain ⟨_, o, e⟩ := q2at a z
        rw [e]; exact c2 a o e (q2 a z)
      have hf : ∀ a, Q2 a → F' a = none := fun a z => by
        obtain ⟨e1, o, e2⟩ := q2at a z
        cases e : F' a with
        | none => rfl
        | some u =>
          rcases c3 a u e with w | w | w | w
          · have w : F a = some u := w
            rw [e1] at w; cases w
          · exact (q2 a z w).elim
          · have w : H a = none := w
            rw [e2] at w; cases w
          · have e3 := c1 a u e
            rw [hk a z, e2] at e3
            cases e3
            exact (o1.noKT ((un1 a).mpr (.inr z)) e2 w).elim
      have ownd : ∀ a, (Ps' a ∨ Pt' a) → Q2 a → False := fun a p z => by
        rcases hk' a p with y | y
        · exact q2 a z y
        · obtain ⟨_, o, e⟩ := q2at a z
          have y : H a = none := y
          rw [e] at y; cases y
      have big := wand F' H' d1' R1 (fun a => R1 a ∨ Q2 a) c4 hk hf n1 (fun a p z => ownd a (.inr ((unn a).mpr (.inl p))) z) (fun _ => Iff.rfl)
      refine ⟨⟨Ps', fun a => (R1 a ∨ Q2 a) ∨ R2 a, k1, .cons big n2 (fun a p z => ?_) fun _ => Iff.rfl, fun a p q => ?_, fun a p => ?_⟩, c1, fun a o e n => ?_, fun a o e => ?_, b4.trans c4, c5, c6⟩
      · rcases p with p | p
        · exact djn a p z
        · exact ownd a (.inr ((unn a).mpr (.inr z))) p
      · rcases q with (q | q) | q
        · exact djk a p ((unn a).mpr (.inl q))
        · exact ownd a (.inl p) q
        · exact djk a p ((unn a).mpr (.inr q))
      · have back : (Ps' a ∨ Pt' a) → G.P0 a ∨ G.H0 a = none := fun p => by
          rcases hk' a p with y | y
          · exact inc a y
          · exact fresh a y
        rcases p with p | (p | p) | p
        · exact back (.inl p)
        · exact back (.inr ((unn a).mpr (.inl p)))
        · exact hq a (.inr ((un a).mpr (.inl ((un1 a).mpr (.inr p)))))
        · exact back (.inr ((unn a).mpr (.inr p)))
      · refine c2 a o (b2 a o e n) fun w => ?_
        rcases inc a w with y | y
        · exact n y
        · rw [e] at y; cases y
      · rcases c3 a o e with w | w | w | w
        · exact b3 a o w
        · rcases inc a w with y | y
          · exact .inr (.inl y)
          · exact .inr (.inr (.inl y))
        · rcases fresh a w with y | y
          · exact .inr (.inl y)
          · exact .inr (.inr (.inl y))
        · exact .inr (.inr (.inr w))
end
/-- the item goes back to its place -/
def backIt (q : Pl) (ir : Nat) (d0 : D) (r : VS) : Option VS := (slot? ir r).map fun d' => (r.set ir none).set q.1 (some (d0.putO q.2 d'))
def backR' (q : Pl) (ir : Nat) (d0 : D) : R Fl → R Fl
  | .ok f r => match backIt q ir d0 r with | some r' => .ok f r' | none => .no
  | .ex c r => match backIt q ir d0 r with | some r' => .ex c r' | none => .no
  | .no => .no
def borrow (i0 ir : Nat) (mb : M Fl) (q : Pl) : M Fl := fun r => match slot? q.1 r with
  | some d0 => (match d0.getO q.2 with
    | some d1 => if q.1 = i0 ∧ i0 ≠ ir ∧ ir < r.length then backR' q ir d0 (mb ((r.set q.1 none).set ir (some d1))) else .no
    | none => .no)
  | none => .no
def mBorrow (m : M Pl) (i0 ir : Nat) (mb : M Fl) : M Fl := M.bind m (borrow i0 ir mb)
def Io.pin2 (io : Io) (i j : Nat) : Io := ⟨i :: j :: io.l, io.k, io.tb⟩
section
variable {T : String → Option Addr} {io : Io} {X : Cx} {W : WX} {pos : Pos}
theorem PSs.ex {b : List Stmt} {α : Type} {P : α → Prop} {t : α → TS} (h : ∀ a, P a → PSs X b (t a)) : PSs X b fun D σ H => ∃ a, P a ∧ t a D σ H := ⟨fun pins s σ H D I ⟨a, p, q⟩ => (h a p).run pins s σ H D I q⟩
theorem qss_borrow {i0 ir : Nat} {xr : Str} {e : Expr} {m : M Pl} {mb : M Fl} {body : List Stmt} {a1 : Pos} (hN : X.N.Nodup) (hr : X.N[ir]? = some xr) (lr : X.env.scope.names.lookup xr = some .local) (hir : ir ∉ io.l)
    (he : QP T io X W e m) (hb : QSs T (io.pin2 i0 ir) X W body mb) (hs : swapsWith e (some (.Name xr a1)) pos.line X.env = pure false := by rfl) (htb : io.tb = [] := by rfl) :
    QSs T io X W (.Assign [.Name xr a1] e pos :: body) (mBorrow m i0 ir mb) := fun G gp =>
  PSs.imp (pss_cons (ps_set hN hr (.inl lr) (he G gp) hs (.inr lr)) (PSs.ex (P := Pins (io.pin2 i0 ir)) fun G' g' => hb G' g')) fun B σ H ⟨F, r, t, tv, h1, h2⟩ => by
    refine ⟨F, r, t, tv, h1, (sat_bind h2).mono (fun q r1 hq x v F1 H1 s1 z1 h3 ex ev => ?_) fun _ _ q => q.toP⟩
    unfold borrow at hq
    cases es : slot? q.1 r1 with
    | none => rw [es] at hq; exact hq.elim
    | some d0 =>
      rw [es] at hq
      dsimp only at hq
      cases eg : d0.getO q.2 with
      | none => rw [eg] at hq; exact hq.elim
      | some d1 =>
        rw [eg] at hq
        dsimp only at hq
        split at hq
        · rename_i hc
          obtain ⟨rfl, hne, hlt⟩ := hc
          obtain ⟨x2, ex2, h4⟩ := h3.take (slot?_eq es)
          have : x2 = x := by rw [ex] at ex2; exact (Option.some.inj (Option.some.inj ex2)).symm
          subst this
          obtain ⟨v1, P1, ev1, h5, backL⟩ := h4.lend eg
          have : v1 = v := by rw [ev] at ev1; exact (Option.some.inj ev1).symm
          subst this
          have hpn : ∀ w, G.pin ir ≠ some w := fun w e => hir (gp.1 ir w e)
          have hpx : ∀ w, G.pin q.1 = some w → x2 = w := fun w e => by
            have := h3.pin q.1 w e
            rw [ex] at this
            exact Option.some.inj (Option.some.inj this)
          have h6 := h5.put (i := ir) (by rw [List.length_set]; exact hlt) fun w e => absurd e (hpn w)
          have hls : ir < σ.length := by rw [h3.slots]; exact hlt
          have sr : (σ.set ir (some v1))[ir]? = some (some v1) := List.getElem?_set_self hls
          have sx : (σ.set ir (some v1))[q.1]? = some (some x2) := by rw [List.getElem?_set_ne (Ne.symm hne)]; exact ex
          have h7 := (h6.toAt sr).toAt sx
          -- behind the body
          have fin : ∀ (F' H' : Hp) (r' r'' : VS) (t' : List D) (σ' : L2.St) (tv' : List V), backIt q ir d0 r' = some r'' → Rl X.K T ((Gm.at ⟨H1, P1, F1, G.pin, G.tb⟩ ir v1).at q.1 x2) F' r' t' σ' tv' H' → Rl X.K T G F' r'' t' σ' tv' H' := fun F' H' r' r'' t' σ' tv' eb h8 => by
            unfold backIt at eb
            obtain ⟨d', ed, rfl⟩ := Option.map_eq_some_iff.mp eb
            obtain ⟨h9, e9⟩ := h8.ofAt (fun w e => by
              have e : (if q.1 = ir then some v1 else G.pin q.1) = some w := e
              rw [if_neg hne] at e
              exact hpx w e)
            obtain ⟨h10, e10⟩ := h9.ofAt (fun w e => absurd e (hpn w))
            obtain ⟨u, eu, h11⟩ := h10.take (slot?_eq ed)
            have : u = v1 := by rw [e10] at eu; exact (Option.some.inj (Option.some.inj eu)).symm
            subst this
            have h12 := backL _ _ _ _ _ _ _ h11
            have hl : q.1 < (r'.set ir none).length := by
              rw [← h12.slots]; exact (List.getElem?_eq_some_iff.mp e9).1
            have h13 := h12.put (i := q.1) hl hpx
            rwa [set_same e9] at h13
          have gp' : Pins (io.pin2 q.1 ir) ((Gm.at ⟨H1, P1, F1, G.pin, G.tb⟩ ir v1).at q.1 x2) := ⟨fun j w e => by
            have e : (if j = q.1 then some x2 else if j = ir then some v1 else G.pin j) = some w := e
            split at e
            · rename_i ej; rw [ej]; exact List.mem_cons_self
            · split at e
              · rename_i ej; rw [ej]; exact List.mem_cons_of_mem _ List.mem_cons_self
              · exact List.mem_cons_of_mem _ (List.mem_cons_of_mem _ (gp.1 j w e)), fun z hz => by
            show (if z.1 = q.1 then some x2 else if z.1 = ir then some v1 else G.pin z.1) = some z.2
            have := gp.2.1 z hz
            split
            · rename_i ej
              rw [ej] at this
              rw [hpx _ this]
            · split
              · rename_i ej
                rw [ej] at this
                exact absurd this (hpn _)
              · exact this, gp.2.2.1, fun p hp => by
            have hp : p ∈ io.tb := hp
            rw [htb] at hp; exact nomatch hp⟩
          refine ⟨_, gp', F1, _, t, tv, h7, ?_⟩
          cases em : mb ((r1.set q.1 none).set ir (some d1)) with
          | no => rw [em] at hq; exact hq.elim
          | ex c r' =>
            rw [em] at hq
            unfold backR' at hq
            dsimp only at hq
            cases eb : backIt q ir d0 r' with
            | none => rw [eb] at hq; exact hq.elim
            | some r'' =>
              rw [eb] at hq
              exact fun C σ' F' H' eT s h8 => hq C σ' F' H' eT (s1.trans s) (fin F' H' r' r'' t σ' tv eb h8)
          | ok f r' =>
            rw [em] at hq
            unfold backR' at hq
            dsimp only at hq
            cases eb : backIt q ir d0 r' with
            | none => rw [eb] at hq; exact hq.elim
            | some r'' =>
              rw [eb] at hq
              intro σ' F' H' s
              have hq := hq σ' F' H' (s1.trans s)
              cases f with
              | nx => exact fun h8 => hq (fin F' H' r' r'' t σ' tv eb h8)
              | bk => exact fun h8 => hq (fin F' H' r' r'' t σ' tv eb h8)
              | ct => exact fun h8 => hq (fin F' H' r' r'' t σ' tv eb h8)
              | rt d => exact fun v h8 => hq v (fin F' H' r' r'' (d :: t) σ' (v :: tv) eb h8)
        · exact hq.elim
end
end VL

/-! VL99: place[i] = v for a list; an item of an owned tuple as a place; the readings of VL98. -/
namespace VL
open PySem PySem.Spec L2
def lisP? (q : Pl) (r : VS) : Option (D × List D) := match slot? q.1 r with
  | some d0 => (match d0.getO q.2 with
    | some (.node true .lst ds) => some (d0, ds)
    | _ => none)
  | none => none
theorem lisP?_eq {q : Pl} {r : VS} {d0 : D} {ds : List D} (h : lisP? q r = some (d0, ds)) : slot? q.1 r = some d0 ∧ d0.getO q.2 = some (.node true .lst ds) := by
  unfold lisP? at h
  split at h
  · rename_i d e
    split at h
    · rename_i ds' e2
      cases h
      exact ⟨e, e2⟩
    · cases h
  · cases h
theorem lisP?_of {q : Pl} {r : VS} {d0 : D} {ds : List D} (h1 : slot? q.1 r = some d0) (h2 : d0.getO q.2 = some (.node true .lst ds)) : lisP? q r = some (d0, ds) := by
  unfold lisP?; rw [h1]; dsimp only; rw [h2]
def lputV (q : Pl) (d : D) (j : Int) (r : VS) : Option VS := (lisP? q r).bind fun z => (ixN z.2.length j).map fun n => r.set q.1 (some (z.1.putO q.2 (.node true .lst (z.2.set n d))))
def lputP (q : Pl) (d : D) (j : Int) : M Fl := fun r => match lputV q d j r with
  | some r' => .ok .nx r'
  | none => .no
def mLPutP (m : M Pl) (a k : M D) : M Fl := M.bind a fun d => M.bind m fun q => M.bind k fun kd => M.bind (M.opt (int? kd)) fun j => lputP q d j
section
variable {T : String → Option Addr} {io : Io} {X : Cx} {W : WX} {p p2 : Bool} {pos : Pos}
theorem qs_lputP {o k e : Expr} {tpos : Pos} {m : M Pl} {a mk : M D} (ho : QP T io X W o m) (he : QE T io X W p e a) (hk : QB T io X W true k mk)
    (ha : ∀ v, assign (.Subscript o k tpos) X.env v = (do
      let ov ← holding [v] (eval o X.env)
      let iv ← holding [v, ov] (eval k X.env)
      standAt tpos
      holding [v, ov, iv] (setItem ov iv v)
      release [v, ov, iv] []) := by intro _; rfl) (hs : swapsWithSole [.Subscript o k tpos] e pos.line X.env = pure false := by rfl) (hw : swappedStores [.Subscript o k tpos] e X.env = pure none := by rfl)
    (h1 : (assignEach [.Subscript o k tpos] X.env).map (·.2) = [assign (.Subscript o k tpos) X.env] := by rfl) : QS T io X W (.Assign [.Subscript o k tpos] e pos) (mLPutP m a mk) := fun G g =>
  PS.imp (ps_asg (he G g) (pg_sub (ho G g) (hk G g) set_list ha) hs hw h1) fun B σ H ⟨F, r, t, tv, h1, h2⟩ => by
    refine ⟨F, r, t, tv, h1, (sat_bind h2).mono (fun d r1 q v F1 H1 s1 z1 h3 => ?_) fun _ _ q => q.toP⟩
    refine ⟨F1, r1, d :: t, v :: tv, h3, (sat_bind q).mono (fun q r2 hq x v2 F2 H2 s2 z2 h4 ex ev => ?_) fun c r' q => ?_⟩
    · refine ⟨F2, r2, d :: t, v :: tv, h4, (sat_bind hq).mono (fun kd r3 hq kv F3 H3 s3 z3 h5 lk => ?_) fun c r' q => ?_⟩
      · obtain ⟨j, e, hq⟩ := sat_opt (sat_bind hq)
        unfold lputP at hq
        cases e0 : lputV q d j r3 with
        | none => rw [e0] at hq; exact hq.elim
        | some r4 =>
          rw [e0] at hq
          unfold lputV at e0
          obtain ⟨⟨d0, ds⟩, e1, e0⟩ := Option.bind_eq_some_iff.mp e0
          obtain ⟨n, e2, rfl⟩ := Option.map_eq_some_iff.mp e0
          obtain ⟨es, eg⟩ := lisP?_eq e1
          obtain ⟨x3, a3, vs, C3, dx3, w1, w2, w3, w4, w5, w6, w7⟩ := Rl.mutPath (ext := [d]) (evs := [v]) rfl h5 es eg
          have : x3 = x := by rw [ex] at w1; exact (Option.some.inj (Option.some.inj w1)).symm
          subst this
          have ev2 := vget_mono (z3 rfl) ev
          have : v2 = .ref a3 := by rw [ev2] at w2; exact Option.some.inj w2
          subst this
          refine ⟨a3, vs, j, n, rfl, lk_int lk e, w4, by rw [← w6]; exact e2, ?_⟩
          exact hq σ F3 _ ((s1.trans s2).trans s3) (w7 .lst (ds.set n d) (vs.set n v) trivial trivial (Sel.set n w6))
      · exact fun C F3 H3 z s4 h5 => q C σ F3 H3 z ((s1.trans s2).trans s4) h5.drop
    · exact fun C F2 H2 z s3 h4 => q C σ F2 H2 z (s1.trans s3) h4.drop
/-- an item of an owned tuple -/
def plT? (kd : D) (q : Pl) (r : VS) : Option Pl := match plD? q r, kd with
  | some (.node true .tup ds), .leaf (.int i) => (ixN ds.length i).bind fun n => if n < ds.length then some (q.1, q.2 ++ [n]) else none
  | _, _ => none
def mPlT (m : M Pl) (k : M D) : M Pl := M.bind m fun q => M.bind k fun kd r => match plT? kd q r with
  | some q' => .ok q' r
  | none => .no
theorem qp_ixT {o e : Expr} {m : M Pl} {k : M D} (ho : QP T io X W o m) (he : QB T io X W true e k) (hs : PlainIx e := by exact fun _ _ => rfl) : QP T io X W (.Subscript o e pos) (mPlT m k) := fun G g =>
  PE.imp (pe_ix ix_seq (ho G g) (he G g) hs) fun σ H Q ⟨F, r, t, tv, h1, h2⟩ => by
    refine ⟨F, r, t, tv, h1, (sat_bind h2).mono (fun q r1 hq x v F1 H1 s1 z1 h3 ex ev => ?_) fun _ _ q => q⟩
    refine ⟨F1, r1, t, tv, h3, (sat_bind hq).mono (fun kd r2 hq kv F2 H2 s2 z2 h4 lk2 => ?_) fun _ _ q => q.trans s1⟩
    cases e1 : plT? kd q r2 with
    | none => rw [e1] at hq; exact hq.elim
    | some q' =>
      rw [e1] at hq
      unfold plT? at e1
      split at e1
      · rename_i ds i e2
        obtain ⟨n, en, e1⟩ := Option.bind_eq_some_iff.mp e1
        split at e1
        · rename_i hlt
          cases e1
          obtain ⟨d0, es, eg⟩ := plD?_cut e2
          obtain ⟨x2, a, vs, C, dx, y1, y2, y3, y4, y5, y6, _⟩ := Rl.mutPath (ext := []) (evs := []) rfl h4 es eg
          have : x2 = x := by rw [ex] at y1; exact (Option.some.inj (Option.some.inj y1)).symm
          subst this
          have ev2 := vget_mono (z2 rfl) ev
          have : v = .ref a := by rw [ev2] at y2; exact Option.some.inj y2
          subst this
          have hv : n < vs.length := by rw [← y6]; exact hlt
          have hat : atI vs i = some vs[n] := by
            unfold atI
            rw [← y6, en]
            show vs[n]? = _
            exact List.getElem?_eq_getElem hv
          refine .inr (.inl ⟨a, vs, i, vs[n], rfl, lk_leaf lk2, .inl (.inl y4), hat, hq x2 vs[n] F2 H2 (s1.trans s2) (z1.trans (z2 rfl)) h4 ex ?_⟩)
          rw [vget_append ev2]
          show (match H2 a with
            | some (.lst vs) => vs[n]?
            | some (.tup vs) => vs[n]?
            | some (.dK kvs) => (kvs[n]?).map (·.2)
            | some (.dT kvs) => (kvs[n]?).map (·.2)
            | some (.ins _ _ fs) => (fs[n]?).map (·.2)
            | _ => none) = some vs[n]
          rw [y4]
          exact List.getElem?_eq_getElem hv
        · cases e1
      · cases e1
end
/-! ### x = x[:a] + x[b:], the items owned -/
theorem Sel.dropN {K : PySem.W.Frag} {T : String → Option Addr} : ∀ {ds : List D} {vs : List V} (j : Nat), ds.length = vs.length → Sel K T ds vs (ds.drop j) (vs.drop j)
  | [], [], i, _ => by rw [List.drop_nil, List.drop_nil]; exact Sel.refl
  | [], _ :: _, _, h => by simp at h
  | _ :: _, [], _, h => by simp at h
  | d :: ds, v :: vs, 0, _ => Sel.refl
  | d :: ds, v :: vs, j + 1, h => Sel.trans Sel.tail (Sel.dropN j (by simpa using h))
theorem Sel.cut {K : PySem.W.Frag} {T : String → Option Addr} : ∀ {ds : List D} {vs : List V} (i j : Nat), i ≤ j → ds.length = vs.length → Sel K T ds vs (ds.take i ++ ds.drop j) (vs.take i ++ vs.drop j)
  | ds, vs, 0, j, _, h => by simpa using Sel.dropN j h
  | [], [], i + 1, j, _, _ => by simpa using Sel.refl
  | [], _ :: _, _, _, _, h => by simp at h
  | _ :: _, [], _, _, _, h => by simp at h
  | d :: ds, v :: vs, i + 1, j + 1, hij, h => by
    have := Sel.cons (d := d) (v := v) (Sel.cut (K := K) (T := T) (ds := ds) (vs := vs) i j (by omega) (by simpa using h))
    simpa using this
  | _ :: _, _ :: _, _ + 1, 0, hij, _ => absurd hij (by omega)
theorem Sel.app {K : PySem.W.Frag} {T : String → Option Addr} {ds ds' t : List D} {vs vs' tv : List V} (h : Sel K T ds vs ds' vs') (hl : ds.length = vs.length := by assumption) : Sel K T (ds ++ t) (vs ++ tv) (ds' ++ t) (vs' ++ tv) := fun F H P o => by
  obtain ⟨A, B, o1, o2, dj, un⟩ := OwL.cut hl o
  obtain ⟨A', o3, sub⟩ := h F H A o1
  exact ⟨fun a => A' a ∨ B a, OwL.join o3 o2 (fun a p q => dj a (sub a p) q) fun _ => Iff.rfl, fun a p => (un a).mpr (p.imp (sub a) id)⟩
def cut2W (ix : Nat) (i j : Int) (r : VS) : Option VS := (ownL? ix r).bind fun ds => if 0 ≤ i ∧ i ≤ j ∧ j ≤ ds.length ∧ ds.length ≤ sizeLine then some (r.set ix (some (.lst true (ds.take i.toNat ++ ds.drop j.toNat)))) else none
def cut2M (ix : Nat) (i j : Int) : M Fl := fun r => match cut2W ix i j r with
  | some r' => .ok .nx r'
  | none => .no
def mCut2 (ix : Nat) (a b : M D) : M Fl := fun r => if (ownL? ix r).isSome = true then (M.bind a fun d => M.bind (M.opt (int? d)) fun i => M.bind b fun e => M.bind (M.opt (int? e)) fun j => cut2M ix i j) r else .no
theorem cutV_pre (vs : List V) (i : Nat) (h : i ≤ vs.length) : cutV vs none (some (i : Int)) = vs.take i := by
  unfold cutV
  rw [HT.sIx_none, HT.sIx_nat, Nat.min_eq_left h, List.drop_zero, Nat.sub_zero]
theorem cutV_suf (vs : List V) (j : Nat) (h : j ≤ vs.length) : cutV vs (some (j : Int)) none = vs.drop j := by
  unfold cutV
  rw [HT.sIx_none, HT.sIx_nat, Nat.min_eq_left h, List.take_of_length_le (by rw [List.length_drop]; exact Nat.le_refl _)]
section
variable {T : String → Option Addr} {io : Io} {X : Cx} {W : WX} {pos b1 b2 b3 b4 b5 b6 b7 b8 : Pos}
theorem qs_cut2 {ix : Nat} {x : Str} {e1 e2 : Expr} {a b : M D} (hN : X.N.Nodup) (hx : X.N[ix]? = some x) (hv : Vis X.env.scope x) (lr : X.env.scope.names.lookup x = some .local) (hix : ix ∉ io.l) (ha : QB T io X W true e1 a) (hb : QB T io X W true e2 b)
    (hd : (x == ("__debug__" : Str)) = false := by decide) (hcd : (x == ("__classdict__" : Str)) = false := by decide)
    (hs : swapsWith (.BinOp (.Subscript (.Name x b2) (.Slice none (some e1) none b3) b4) .Add (.Subscript (.Name x b5) (.Slice (some e2) none none b6) b7) b8) (some (.Name x b1)) pos.line X.env = pure false := by rfl) :
    QS T io X W (.Assign [.Name x b1] (.BinOp (.Subscript (.Name x b2) (.Slice none (some e1) none b3) b4) .Add (.Subscript (.Name x b5) (.Slice (some e2) none none b6) b7) b8) pos) (mCut2 ix a b) := fun G g =>
  PS.imp (ps_set hN hx (.inl lr) (pe_op op_catR (pe_slice sl_list (pe_var hx hv hd hcd) po_none (po_some (ha G g))) (pe_slice sl_list (pe_var hx hv hd hcd) (po_some (hb G g)) po_none)) hs (.inr lr)) fun B σ H ⟨F, r, t, tv, h1, h2⟩ => by
    unfold mCut2 at h2
    split at h2
    · rename_i ho
      obtain ⟨ds0, eo⟩ := Option.isSome_iff_exists.mp ho
      obtain ⟨v0, ev0, k1⟩ := h1.take (slot?_eq (ownL?_eq eo))
      obtain ⟨a0, vs, rfl, ea0, hl0, -⟩ := k1.ownTop
      refine ⟨.ref a0, ev0, ?_⟩
      refine ⟨F, r, t, tv, h1, (sat_bind h2).mono (fun d r1 q v F1 H1 s1 z1 h3 lk => ?_) fun _ _ q => q.toP⟩
      obtain ⟨i, ei, q⟩ := sat_opt (sat_bind q)
      refine ⟨i, lk_int lk ei, a0, vs, rfl, .inl (.inl (z1 rfl _ _ ea0)), fun p1 hp1 => ?_⟩
      have ea1 := z1 rfl _ _ ea0
      have g1 : Same H1 (upd H1 p1 (.lst (cutV vs none (some i)))) := same_upd hp1
      refine ⟨.ref a0, ev0, ?_⟩
      refine ⟨F1, r1, t, tv, h3.grow g1, (sat_bind q).mono (fun e r2 q w F2 H2 s2 z2 h4 lk2 => ?_) fun _ _ q => (q.trans s1).toP⟩
      obtain ⟨j, ej, q⟩ := sat_opt (sat_bind q)
      have ea2 := z2 rfl _ _ (g1 _ _ ea1)
      refine ⟨j, lk_int lk2 ej, a0, vs, rfl, .inl (.inl ea2), fun p2 hp2 => ?_⟩
      have g2 : Same H2 (upd H2 p2 (.lst (cutV vs (some j) none))) := same_upd hp2
      unfold cut2M at q
      cases ec : cut2W ix i j r2 with
      | none => rw [ec] at q; exact q.elim
      | some r3 =>
        rw [ec] at q
        unfold cut2W at ec
        obtain ⟨ds, eo2, ec⟩ := Option.bind_eq_some_iff.mp ec
        split at ec
        · rename_i hc
          cases ec
          obtain ⟨i0, ij, jl, lz⟩ := hc
          obtain ⟨v2, ev2, k2⟩ := h4.take (slot?_eq (ownL?_eq eo2))
          have : v2 = .ref a0 := by rw [ev0] at ev2; exact (Option.some.inj (Option.some.inj ev2)).symm
          subst this
          obtain ⟨a2, vs2, e0, ea3, hl2, k3⟩ := k2.ownTop
          cases e0
          rw [ea2] at ea3
          cases ea3
          obtain ⟨n, rfl⟩ := Int.eq_ofNat_of_zero_le i0
          obtain ⟨m, rfl⟩ := Int.eq_ofNat_of_zero_le (Int.le_trans i0 ij)
          have hn : n ≤ vs.length := by omega
          have hm : m ≤ vs.length := by omega
          have c1 := cutV_pre vs n hn
          have c2 := cutV_suf vs m hm
          rw [c1] at g1 z2
          rw [c2] at g2
          rw [c2]
          have ep1 : upd H2 p2 (.lst (vs.drop m)) p1 = some (.lst (vs.take n)) := g2 _ _ (z2 rfl _ _ upd_same)
          refine ⟨p1, p2, _, _, rfl, rfl, .inl (.inl ep1), .inl (.inl upd_same), by rw [List.length_take, List.length_drop]; omega, fun p3 hp3 => ?_⟩
          have k4 := (Rl.sel (Sel.app (Sel.cut n m (by omega) hl2)) k3).grow g2
          have k5 := Rl.alloc (k := .lst) (fun _ _ z => nomatch z) (by rw [List.length_append, List.length_append, List.length_take, List.length_take, List.length_drop, List.length_drop, hl2]) trivial k4 hp3
          have hlt : ix < (r2.set ix none).length := by rw [List.length_set]; exact (List.getElem?_eq_some_iff.mp (slot?_eq (ownL?_eq eo2))).1
          have k6 := k5.put (i := ix) hlt fun w e => absurd (g.1 ix w e) hix
          rw [List.set_set] at k6
          exact q (σ.set ix (some (.ref p3))) F2 _ (s1.trans s2) k6
        · cases ec
    · exact h2.elim
end
/-! ### the readings -/
section
variable {r : VS} {ok : Fl → VS → Prop} {ex : String → VS → Prop} {KP : Pl → VS → Prop}
def lputR (q : Pl) (d : D) (ok : Fl → VS → Prop) (kd : D) (r : VS) : Prop := optK (int? kd) r fun j r => optK (lputV q d j r) r fun r' _ => ok .nx r'
def lputM (k : M D) (d : D) (ok : Fl → VS → Prop) (ex : String → VS → Prop) (q : Pl) (r : VS) : Prop := (k r).sat (lputR q d ok) ex
def lputL (m : M Pl) (k : M D) (ok : Fl → VS → Prop) (ex : String → VS → Prop) (d : D) (r : VS) : Prop := (m r).sat (lputM k d ok ex) ex
theorem Z3 {m : M Pl} {a k : M D} : (mLPutP m a k r).sat ok ex = (a r).sat (lputL m k ok ex) ex := by
  unfold mLPutP; rw [sat_bind_eq]; congr 1; funext d r; rw [sat_bind_eq]; unfold lputL; congr 1; funext q r; rw [sat_bind_eq]; unfold lputM; congr 1; funext kd r; rw [sat_bind_eq, Z38]
  unfold lputR
  congr 1
  funext j r
  unfold lputP
  cases lputV q d j r <;> rfl
theorem Z4 {m : M Pl} {k : M D} {d : D} : lputL m k ok ex d r = (m r).sat (lputM k d ok ex) ex := nr rfl
theorem Z5 {k : M D} {d : D} {q : Pl} : lputM k d ok ex q r = (k r).sat (lputR q d ok) ex := nr rfl
theorem Z6 {d kd : D} {q : Pl} : lputR q d ok kd r = optK (int? kd) r fun j r => optK (lputV q d j r) r fun r' _ => ok .nx r' := nr rfl
def plTR (q : Pl) (KP : Pl → VS → Prop) (kd : D) (r : VS) : Prop := optK (plT? kd q r) r KP
def plTM (k : M D) (KP : Pl → VS → Prop) (ex : String → VS → Prop) (q : Pl) (r : VS) : Prop := (k r).sat (plTR q KP) ex
theorem Z7 {m : M Pl} {k : M D} : (mPlT m k r).sat KP ex = (m r).sat (plTM k KP ex) ex := by
  unfold mPlT; rw [sat_bind_eq]; congr 1; funext q r; rw [sat_bind_eq]; unfold plTM; congr 1; funext kd r; unfold plTR; cases plT? kd q r <;> rfl
theorem Z8 {k : M D} {q : Pl} : plTM k KP ex q r = (k r).sat (plTR q KP) ex := nr rfl
theorem Z9 {kd : D} {q : Pl} : plTR q KP kd r = optK (plT? kd q r) r KP := nr rfl
def cut2R (ix : Nat) (ok : Fl → VS → Prop) (i : Int) (e : D) (r : VS) : Prop := optK (int? e) r fun j r => optK (cut2W ix i j r) r fun r' _ => ok .nx r'
def cut2L (ix : Nat) (b : M D) (ok : Fl → VS → Prop) (ex : String → VS → Prop) (d : D) (r : VS) : Prop := optK (int? d) r fun i r => (b r).sat (cut2R ix ok i) ex
theorem Z10 {ix : Nat} {a b : M D} : (mCut2 ix a b r).sat ok ex = ((ownL? ix r).isSome = true ∧ (a r).sat (cut2L ix b ok ex) ex) := by
  unfold mCut2
  by_cases h : (ownL? ix r).isSome = true
  · rw [if_pos h, sat_bind_eq]
    refine (Eq.trans ?_ (propext ⟨fun z => ⟨h, z⟩, fun z => z.2⟩ : (a r).sat (cut2L ix b ok ex) ex = _))
    congr 1
    funext d r
    rw [sat_bind_eq, Z38]
    unfold cut2L
    congr 1
    funext i r
    rw [sat_bind_eq]
    congr 1
    funext e r
    rw [sat_bind_eq, Z38]
    unfold cut2R
    congr 1
    funext j r
    unfold cut2M
    cases cut2W ix i j r <;> rfl
  · rw [if_neg h]
    exact propext ⟨fun z => z.elim, fun z => (h z.1).elim⟩
theorem Z11 {ix : Nat} {b : M D} {d : D} : cut2L ix b ok ex d r = optK (int? d) r fun i r => (b r).sat (cut2R ix ok i) ex := nr rfl
theorem Z12 {ix : Nat} {i : Int} {e : D} : cut2R ix ok i e r = optK (int? e) r fun j r => optK (cut2W ix i j r) r fun r' _ => ok .nx r' := nr rfl
/-- the body's end: the item goes back -/
def bkOk (q : Pl) (ir : Nat) (d0 : D) (ok : Fl → VS → Prop) (f : Fl) (r : VS) : Prop := optK (backIt q ir d0 r) r fun r' _ => ok f r'
def bkEx (q : Pl) (ir : Nat) (d0 : D) (ex : String → VS → Prop) (c : String) (r : VS) : Prop := optK (backIt q ir d0 r) r fun r' _ => ex c r'
def brwK (i0 ir : Nat) (mb : M Fl) (ok : Fl → VS → Prop) (ex : String → VS → Prop) (q : Pl) (r : VS) : Prop := optK (slot? q.1 r) r fun d0 r => optK (d0.getO q.2) r fun d1 r => (q.1 = i0 ∧ i0 ≠ ir ∧ ir < r.length) ∧ (mb ((r.set q.1 none).set ir (some d1))).sat (bkOk q ir d0 ok) (bkEx q ir d0 ex)
theorem Z0 {m : M Pl} {i0 ir : Nat} {mb : M Fl} : (mBorrow m i0 ir mb r).sat ok ex = (m r).sat (brwK i0 ir mb ok ex) ex := by
  unfold mBorrow; rw [sat_bind_eq]; congr 1; funext q r
  unfold borrow brwK
  cases slot? q.1 r with
  | none => rfl
  | some d0 =>
    rw [Z40]
    dsimp only
    cases d0.getO q.2 with
    | none => rfl
    | some d1 =>
      rw [Z40]
      dsimp only
      by_cases h : q.1 = i0 ∧ i0 ≠ ir ∧ ir < r.length
      · rw [if_pos h]
        refine propext ⟨fun z => ⟨h, ?_⟩, fun z => ?_⟩
        · revert z
          cases mb ((r.set q.1 none).set ir (some d1)) with
          | no => exact fun z => z
          | ok f r' =>
            show (backR' q ir d0 (.ok f r')).sat ok ex → bkOk q ir d0 ok f r'
            unfold backR' bkOk
            dsimp only
            cases backIt q ir d0 r' <;> exact fun z => z
          | ex c r' =>
            show (backR' q ir d0 (.ex c r')).sat ok ex → bkEx q ir d0 ex c r'
            unfold backR' bkEx
            dsimp only
            cases backIt q ir d0 r' <;> exact fun z => z
        · obtain ⟨_, z⟩ := z
          revert z
          cases mb ((r.set q.1 none).set ir (some d1)) with
          | no => exact fun z => z
          | ok f r' =>
            show bkOk q ir d0 ok f r' → (backR' q ir d0 (.ok f r')).sat ok ex
            unfold backR' bkOk
            dsimp only
            cases backIt q ir d0 r' <;> exact fun z => z
          | ex c r' =>
            show bkEx q ir d0 ex c r' → (backR' q ir d0 (.ex c r')).sat ok ex
            unfold backR' bkEx
            dsimp only
            cases backIt q ir d0 r' <;> exact fun z => z
      · rw [if_neg h]
        exact propext ⟨fun z => z.elim, fun z => (h z.1).elim⟩
theorem Z1 {i0 ir : Nat} {mb : M Fl} {q : Pl} : brwK i0 ir mb ok ex q r = optK (slot? q.1 r) r fun d0 r => optK (d0.getO q.2) r fun d1 r => (q.1 = i0 ∧ i0 ≠ ir ∧ ir < r.length) ∧ (mb ((r.set q.1 none).set ir (some d1))).sat (bkOk q ir d0 ok) (bkEx q ir d0 ex) := nr rfl
theorem Z2 {q : Pl} {ir : Nat} {d0 : D} {f : Fl} : bkOk q ir d0 ok f r = optK ((slot? ir r).map fun d' => (r.set ir none).set q.1 (some (d0.putO q.2 d'))) r fun r' _ => ok f r' := nr rfl
end
end VL

/-! VL100: [.. for .. in o], o of an own class whose __iter__ answers iter(self.f), self.f a list. -/
namespace VL
open PySem PySem.Spec L2 PyProof.Rows
/-- what is known of such an __iter__ -/
structure ItL (P : Program) (w : World) (K : PySem.W.Frag) (mg : Str → Option Value) (base : Heap) (C fi : Addr) (f : Str) (k : Nat) : Prop where
  mt : Meth K C "__iter__" fi
  run : ∀ (A : Around) (outer : List Env) (s : Shared) (H : Hp) (x dx : Addr) (fs : List (Str × V)) (d : Addr) (zs : List V), Room (k + 1) A → Env0 P w K mg base A outer s H → H x = some (.ins C dx fs) → fs.lookup f = some (.ref d) → SqL K H d zs →
    codeAny (model P w) A (.call (.ref fi) ⟨[.ref x], []⟩) (CR C8.CX0 outer P w H s (fun v H' => ∃ it, v = .ref it ∧ H it = none ∧ s.heap.objs.size ≤ it ∧ H' = upd H it (L2.ItO d it 0)) C8.E0) s
theorem itL_of {P : Program} {w : World} {K : PySem.W.Frag} {mg : Str → Option Value} {base : Heap} {C fi : Addr} {f qual : Str} {k : Nat} {params : Arguments} {scope : Scope} {fd : FuncData} {N : List Str} {p1 p2 p3 p4 p5 : Pos}
    (F : FunD K "__iter__" qual params [.Return (some (.Call (.Name "iter" p1) [.Attribute (.Name "self" p2) f p3] [] p4)) p5] scope [] [] fi fd) (B : Binds K fd ["self"] []) (S : FnScope N ["self"] scope) (hN : N[0]? = some ("self" : Str)) (hv : Vis scope "self") (hgl : scope.names.lookup ("iter" : Str) = some .globalImplicit)
    (hm : Meth K C "__iter__" fi) (hc : Cls K C) (na : NoAttr K C f) (hg : mg "iter" = none)
    (hb : ∀ env : Env, attributeBase (.Name "self" p2) f env (eval (.Name "self" p2) env) = eval (.Name "self" p2) env := by intro _; rfl) : ItL P w K mg base C fi f k := by
  refine ⟨hm, fun A outer s H x dx fs d zs hr e0 hx hl hd => ?_⟩
  obtain ⟨oc, od, dV, kV, doc, pm, an, cdv, ct, osl, rfl, lk, hcd, _, _⟩ := F.ex
  have KX : K.In s.heap := e0.mod.kin.keeps fun b o e => (e0.bs b o e).1
  refine LamX.run_ofS (N := N) (ps := ["self"]) (us := [.ref x]) (vs := [.ref x]) lk hcd S hr e0 (by have := B s [.ref x] KX rfl; simpa using this) (.cons rfl .nil) rfl fun hr' => ?_
  refine ⟨_, pss_one (ps_ret (pe_callB ItX.call_iterN hgl hg (by decide +kernel) (pa_cons (pe_fld (pe_var hN hv) (hb _)) pa_nil))), ?_⟩
  have h0 : (L2.start N [V.ref x])[0]? = some (some (V.ref x)) := by unfold L2.start; rfl
  exact ⟨.ref x, h0, x, C, dx, fs, .ref d, rfl, hx, hc, na, hl, d, zs, rfl, hd, fun it hn hz => ⟨it, rfl, hn, hz, rfl⟩⟩
section
variable {X : Cx}
def iOwnL (K : PySem.W.Frag) (td : TE) : TI := fun σ H R => td σ H fun x H1 => ∃ d, x = .ref d ∧ (∃ zs, SqL K H1 d zs) ∧ R (Itl K d) H1
theorem pi_ownL {tg e : Expr} {te : TE} {C fi : Addr} {f : Str} {k : Nat} (he : PE X e te) (FI : ItL X.prog X.w X.K X.mg X.base C fi f k) (hr : Room (k + 1) X.A) : PI X tg e (iOwnL X.K (tFldC C te f)) := by
  refine ⟨fun pins s σ H R I h => thn (he.run pins s σ H _ I h) fun u s1 ⟨x, H1, I1, rx, a, dx, fs, v, ex, ea, hl, d, ev, ⟨zs, hd⟩, q⟩ => ?_⟩
  subst ex
  subst ev
  cases rx
  obtain ⟨mA, O, r, _, _, _⟩ := ins_get I1.hok ea
  obtain ⟨od, J, _⟩ := O.look
  obtain ⟨m', F'⟩ := I1.fr
  refine PySem.W.owit_iter F' I1.ok.mod.kin J FI.mt.at_ FI.mt.fn (wpAny_call (codeAny_mono (FI.run X.A X.stack s1 H1 a dx fs d zs hr I1.env0 ea hl hd) fun r s3 hq => ?_))
  cases r with
  | error e => exact (show False from hq).elim
  | ok fl =>
    cases fl with
    | next => exact False.elim hq
    | brk => exact False.elim hq
    | cont => exact False.elim hq
    | ret z =>
      obtain ⟨v', H3, I3, rz, it, rfl, hn, hz, rfl⟩ := I1.after hq
      cases rz
      have eo := L2.itO_get I3 upd_same
      have st : s3.heap.IsListIter it d 0 := ⟨_, eo, rfl, rfl⟩
      have sz : X.s_0.heap.objs.size ≤ it := Nat.le_trans I1.sz hz
      unfold PySem.W.OwitIt
      refine wpAny_specialOf (name := "__next__") st.typeIs slot_listiter_next.lookup ?_
      have iv := ItX.inv_drop (φ := _) I3 (by have := @upd_same H1 it (L2.ItO d it 0); unfold L2.ItO at this ⊢; exact this)
      have fp := ItX.inv_fp I3 (u := L2.ItO d it 0) upd_same sz
      have eH : ItX.dropH (upd H1 it (L2.ItO d it 0)) it = H1 := ItX.dropH_upd hn
      rw [eH] at iv fp
      refine ⟨it, [it], _, _, H1, rfl, iv, turn_list d it, st, fun b hb => ?_, q⟩
      have e : b = it := by simpa using hb
      rw [e]; exact fp
end
def lisFld (c f : String) : D → Option (List D)
  | .node _ (.ins c' fs) ds => if c' = c then (ixF fs f).bind fun j => (ds[j]?).bind fun d => match d with
    | .node _ .lst es => if es.all D.shr = true then some es else none
    | _ => none else none
  | _ => none
def ownItems (c f : String) (i : Nat) (r : VS) : Option (List D) := (slot? i r).bind (lisFld c f)
def iOwnI (c f : String) (i : Nat) : M (List D) := fun r => (M.opt (ownItems c f i r)) r
section
variable {T : String → Option Addr} {io : Io} {X : Cx} {W : WX} {pos : Pos}
theorem lc_teO {c f : String} {C : Addr} {i : Nat} (hT : T c = some C) {own : List Nat} {g : Gt} {cn : M Bool} {el : M D} {sl : List Nat} {G : Gm} (gp : Pins io G) (hsl : ∀ j ∈ sl, j ∈ own) (hio : ∀ j ∈ io.l, j ∉ own) {σ : L2.St} {H : Hp} {Q : VK}
    (h : tE X.K T G W true (mComp own (iOwnI c f i) g cn el) σ H Q) : tLc (iOwnL X.K (tFldC C (tVar i) (Str.ofString f))) (tG X.K T G sl true g) (tT X.K T G W0 true cn) (tE X.K T G W0 true el) own σ H Q := by
  obtain ⟨F, r, t, tv, h1, h2⟩ := h
  have q := sat_bind h2
  unfold iOwnI at q
  obtain ⟨ds, e, q1⟩ := sat_opt q
  clear q h2
  unfold ownItems at e
  obtain ⟨d0, es, e9⟩ := Option.bind_eq_some_iff.mp e
  clear e
  obtain ⟨v, ev, lk⟩ := h1.look (slot?_eq es)
  unfold lisFld at e9
  split at e9
  · rename_i o c' fs ds0
    split at e9
    · rename_i hc
      subst hc
      obtain ⟨j, ej, e8⟩ := Option.bind_eq_some_iff.mp e9
      clear e9
      obtain ⟨d1, e1, e7⟩ := Option.bind_eq_some_iff.mp e8
      clear e8
      obtain ⟨a, vs0, rfl, hn, hl⟩ := lk.node h1.sub
      obtain ⟨n1, C', dx, n2, n3, n4⟩ := hn
      have n1 : fs.length = vs0.length := n1
      rw [hT] at n2
      cases n2
      obtain ⟨v1, g1, lk1⟩ := hl.get e1
      obtain ⟨u, u1, u2⟩ := ixF_zip (vs := vs0) ej n1
      rw [zip_snd _ _ _ (by rw [List.length_map]; exact n1), g1] at u2
      cases u2
      split at e7
      · split at e7
        · rename_i hsh
          cases e7
          obtain ⟨b, vs, rfl, hn1, hl1⟩ := lk1.node h1.sub
          have hq : SqL X.K H b vs := hn1.2
          have q2 := lcRun_calm q1
          exact ⟨_, ev, a, dx, _, _, rfl, n3, u1, b, rfl, ⟨vs, hq⟩, lcP_imp (p1 := true) (p2 := true) (pg := true) (walks_list' (hl1.shr hsh)) (fun F' H' s3 s4 s5 => (s5 rfl).seq hq) hsl (fun i v e => hio i (gp.1 i v e)) h1 q2⟩
        · cases e7
      · cases e7
    · cases e9
  · cases e9
/-- [.. for .. in o], o's __iter__ is iter of a list field -/
theorem qe_compL {c f : String} {C fi : Addr} {k i : Nat} {x : Str} {xp : Pos} {ol : List Nat} {elt tg : Expr} {ifs : List Expr} {scope : Scope} {own : List (Str × Nat)} {el : M D} {g : Gt} {sl : List Nat} {cn : M Bool} (hT : T c = some C) (FI : ItL X.prog X.w X.K X.mg X.base C fi (Str.ofString f) k) (hr : Room (k + 1) X.A) (hx : X.N[i]? = some x) (hv : Vis X.env.scope x) (hc : X.calm = true) (hN : X.N.Nodup) (ok : BlkOk X.N X.env.scope scope own)
    (hg : ∀ (s : Shared) (H : Hp) (C : Addr) (cl : List (Str × Addr)) (fp : List Addr), QG T io (X.blk s H scope (compEnvC scope cl C X.env) fp) sl true tg g) (ht : ∀ (s : Shared) (H : Hp) (C : Addr) (cl : List (Str × Addr)) (fp : List Addr), QTs T io (X.blk s H scope (compEnvC scope cl C X.env) fp) W0 true ifs cn)
    (he : ∀ (s : Shared) (H : Hp) (C : Addr) (cl : List (Str × Addr)) (fp : List Addr), QE T io (X.blk s H scope (compEnvC scope cl C X.env) fp) W0 true elt el) (hsl : ∀ j ∈ sl, j ∈ own.map (·.2)) (hio : ∀ j ∈ io.l, j ∉ own.map (·.2)) (hd : (x == ("__debug__" : Str)) = false := by decide) (hcd : (x == ("__classdict__" : Str)) = false := by decide) (hs : ∀ y, foldedSetIterable (.Name x xp) X.env y = pure y := by intro _; rfl) (hol : (own.map (·.2)) = ol := by rfl) :
    QE T io X W true (.ListComp elt [⟨tg, .Name x xp, ifs, 0⟩] scope pos) (mComp ol (iOwnI c f i) g cn el) := by
  subst hol
  exact fun G gp => PE.imp (pe_lc (g := tG X.K T G sl true g) (tt := tT X.K T G W0 true cn) (te := tE X.K T G W0 true el) hc hN (pi_ownL (pe_var hx hv hd hcd) FI hr) ok (fun s H C cl fp => hg s H C cl fp G gp) (fun s H C cl fp => ht s H C cl fp G gp) (fun s H C cl fp => he s H C cl fp G gp) hs) fun σ H Q h => lc_teO hT gp hsl hio h
end
section
variable {r : VS} {ex : String → VS → Prop} {KL : List D → VS → Prop}
theorem Z13 {c f : String} {i : Nat} : (iOwnI c f i r).sat KL ex = optK (ownItems c f i r) r KL := by
  unfold iOwnI; exact Z38
end
end VL

/-! VL101: a pure test during which everything is looked at as if frozen; a tuple of things that are looked at. -/
namespace VL
open PySem PySem.Spec L2
def frzS (r : VS) : VS := r.map (Option.map D.frz)
section
variable {K : PySem.W.Frag} {T : String → Option Addr} {F H : Hp} {G : Gm}
theorem Fz.owH {d : D} {v : V} (h : Fz K T H d v) : Ow K T H H d v (fun _ => False) := by
  cases h with
  | leaf h => exact .leaf h fun _ z => z
  | node h1 h2 => exact .fz (.node h1 h2) fun _ z => z
theorem frzS_ow {r : VS} {σ : L2.St} {P : Ft} (h : OwS K T F H r σ P) (s : Same F H) : OwS K T H H (frzS r) σ (fun _ => False) := by
  induction h with
  | nil _ => exact .nil fun _ z => z
  | none _ ih => exact .none ih
  | @some d v r σ P P1 P2 o _ dj un ih =>
    exact .some (o.lk.seen s).owH ih (fun _ z => z.elim) fun _ => ⟨False.elim, fun z => z.elim id id⟩
theorem frz_rl {r : VS} {t : List D} {σ : L2.St} {tv : List V} (h : Rl K T G F r t σ tv H) (htb : G.tb = []) :
    Rl K T ⟨fun _ => none, fun _ => False, H, G.pin, G.tb⟩ H (frzS r) [] σ [] H := by
  obtain ⟨⟨Ps, Pt, h1, h2, dj, hq⟩, b1, b2, b3, b4, b5, b6⟩ := h
  exact ⟨⟨fun _ => False, fun _ => False, frzS_ow h1 b1, .nil fun _ z => z, fun _ _ z => z, fun a _ => .inr rfl⟩, Same.refl _, fun _ _ e => (nomatch e), fun a o e => .inl e, Same.refl _, b5, by rw [htb]; exact TabF.nil⟩
end
def mFrzT (m : M Bool) : M Bool := fun r => match m (frzS r) with
  | .ok b _ => .ok b r
  | _ => .no
def mTupL (a : M (List D)) : M D := M.bind a fun ds => M.bind (M.ck (decide (ds.length ≤ sizeLine))) fun _ => M.ret (.node true .tup ds)
section
variable {T : String → Option Addr} {io : Io} {X : Cx} {W : WX} {pos : Pos}
/-- a tuple of things that are looked at: it is looked at alone -/
theorem qb_tupL {p : Bool} {es : List Expr} {x1} {a : M (List D)} (h : QAB T io X W p es a) : QB T io X W p (.Tuple es x1 pos) (mTupL a) := fun G g => PE.imp (pe_tup (h G g)) fun σ H Q ⟨F, r, t, tv, h1, h2⟩ => by
  refine ⟨F, r, t, tv, h1, (sat_bind h2).mono (fun ds r1 q vs F1 H1 s1 s2 h3 lks => ?_) fun _ _ q => q⟩
  obtain ⟨hz, q⟩ := sat_ck (sat_bind q)
  refine ⟨by rw [← lks.length]; exact of_decide_eq_true hz, fun a ha => ?_⟩
  exact q (.ref a) F1 _ s1 (fun z => (s2 z).trans (same_upd ha)) (h3.grow (same_upd ha)) (.own ⟨trivial, upd_same⟩ (lks.mono (Same.refl _) (same_upd ha)))
theorem qt_frz {e : Expr} {m : M Bool} (h : QT T io X W true e m) (htb : io.tb = [] := by rfl) : QT T io X W true e (mFrzT m) := fun G gp =>
  PT.imp (PT.ex (P := Pins io) fun G' g' => h G' g') fun σ H Q ⟨F, r, t, tv, h1, h2⟩ => by
    unfold mFrzT at h2
    cases em : m (frzS r) with
    | no => rw [em] at h2; exact h2.elim
    | ex _ _ => rw [em] at h2; exact h2.elim
    | ok b r' =>
      rw [em] at h2
      refine ⟨⟨fun _ => none, fun _ => False, H, G.pin, G.tb⟩, ⟨gp.1, gp.2.1, gp.2.2.1, fun p hp => by rw [htb] at hp; exact nomatch hp⟩, H, _, [], [], frz_rl h1 (gp.2.2.1.trans htb), ?_⟩
      rw [em]
      exact fun F2 H2 s1 z1 _ => h2 F H2 (Same.refl _) (fun _ => z1 rfl) (h1.grow (z1 rfl))
end
section
variable {r : VS} {ex : String → VS → Prop} {ok : Bool → VS → Prop}
def tupLK (K : D → VS → Prop) (ds : List D) (r : VS) : Prop := ds.length ≤ sizeLine ∧ K (.node true .tup ds) r
theorem Z19 {K : D → VS → Prop} {a : M (List D)} : (mTupL a r).sat K ex = (a r).sat (tupLK K) ex := by
  unfold mTupL; rw [sat_bind_eq]; congr 1; funext ds r
  rw [sat_bind_eq, Z39]
  unfold tupLK
  rw [decide_eq_true_eq]
  rfl
theorem Z20 {K : D → VS → Prop} {ds : List D} : tupLK K ds r = (ds.length ≤ sizeLine ∧ K (.node true .tup ds) r) := nr rfl
theorem Z14 {m : M Bool} : (mFrzT m r).sat ok ex = (m (frzS r)).sat (fun b _ => ok b r) (fun _ _ => False) := by
  unfold mFrzT
  cases m (frzS r) <;> rfl
theorem Z15 {x : Option D} {r : VS} : frzS (x :: r) = x.map D.frz :: frzS r := nr rfl
theorem Z16 : frzS [] = [] := nr rfl
theorem Z17 {d : D} : (some d).map D.frz = some d.frz := nr rfl
theorem Z18 : (none : Option D).map D.frz = none := nr rfl
end
end VL

namespace Law
open PySem PySem.Spec L2 VL
def top (i : Nat) : Stmt := PySem.Challenge.pw_meridian_k17_network_as_a_list.main.body.getD i (.Pass ⟨0, 0, 0, 0⟩)
def inC (s : Stmt) (j : Nat) : Stmt := match s with
  | .ClassDef _ _ _ b _ _ _ _ _ _ _ => b.getD j (.Pass ⟨0, 0, 0, 0⟩)
  | _ => .Pass ⟨0, 0, 0, 0⟩
abbrev cs : List String := ["MeridianError", "BadArgument", "Refused", "Network"]
abbrev st_Network_c___init__ : Stmt := inC (top 5) 0
abbrev st__law_cell : Stmt := top 7
abbrev st__law_draws : Stmt := top 9
abbrev st__law_block : Stmt := top 10
abbrev st_Network_c_post : Stmt := inC (top 5) 4
abbrev st_Network_c___len__ : Stmt := inC (top 5) 1
abbrev st_Network_c___iter__ : Stmt := inC (top 5) 2
abbrev st_Network_c__check : Stmt := inC (top 5) 3
abbrev st_Network_c_packet : Stmt := inC (top 5) 5
abbrev st_Network_c_is_damaged : Stmt := inC (top 5) 6
abbrev st_Network_c_take : Stmt := inC (top 5) 7
abbrev st_Network_c_lose : Stmt := inC (top 5) 8
abbrev st_Network_c_double : Stmt := inC (top 5) 9
abbrev st_Network_c_damage : Stmt := inC (top 5) 10
abbrev st__law_try : Stmt := top 11
abbrev st__law_like : Stmt := top 12
abbrev st__law_damage : Stmt := top 13
abbrev st_law : Stmt := top 14
def dd_Network_c___init__ : He.DefD := ⟨("Network", some "__init__"), "__init__", "Network.__init__", defArgs st_Network_c___init__, defBody st_Network_c___init__, defScope st_Network_c___init__, [], []⟩
def dd__law_cell : He.DefD := ⟨("_law_cell", none), "_law_cell", "_law_cell", defArgs st__law_cell, defBody st__law_cell, defScope st__law_cell, [], []⟩
def dd__law_draws : He.DefD := ⟨("_law_draws", none), "_law_draws", "_law_draws", defArgs st__law_draws, defBody st__law_draws, defScope st__law_draws, [], []⟩
def dd__law_block : He.DefD := ⟨("_law_block", none), "_law_block", "_law_block", defArgs st__law_block, defBody st__law_block, defScope st__law_block, [], []⟩
def dd_Network_c_post : He.DefD := ⟨("Network", some "post"), "post", "Network.post", defArgs st_Network_c_post, defBody st_Network_c_post, defScope st_Network_c_post, [], []⟩
def dd_Network_c___len__ : He.DefD := ⟨("Network", some "__len__"), "__len__", "Network.__len__", defArgs st_Network_c___len__, defBody st_Network_c___len__, defScope st_Network_c___len__, [], []⟩
def dd_Network_c___iter__ : He.DefD := ⟨("Network", some "__iter__"), "__iter__", "Network.__iter__", defArgs st_Network_c___iter__, defBody st_Network_c___iter__, defScope st_Network_c___iter__, [], []⟩
def dd_Network_c__check : He.DefD := ⟨("Network", some "_check"), "_check", "Network._check", defArgs st_Network_c__check, defBody st_Network_c__check, defScope st_Network_c__check, [], []⟩
def dd_Network_c_packet : He.DefD := ⟨("Network", some "packet"), "packet", "Network.packet", defArgs st_Network_c_packet, defBody st_Network_c_packet, defScope st_Network_c_packet, [], []⟩
def dd_Network_c_is_damaged : He.DefD := ⟨("Network", some "is_damaged"), "is_damaged", "Network.is_damaged", defArgs st_Network_c_is_damaged, defBody st_Network_c_is_damaged, defScope st_Network_c_is_damaged, [], []⟩
def dd_Network_c_take : He.DefD := ⟨("Network", some "take"), "take", "Network.take", defArgs st_Network_c_take, defBody st_Network_c_take, defScope st_Network_c_take, [], []⟩
def dd_Network_c_lose : He.DefD := ⟨("Network", some "lose"), "lose", "Network.lose", defArgs st_Network_c_lose, defBody st_Network_c_lose, defScope st_Network_c_lose, [], []⟩
def dd_Network_c_double : He.DefD := ⟨("Network", some "double"), "double", "Network.double", defArgs st_Network_c_double, defBody st_Network_c_double, defScope st_Network_c_double, [], []⟩
def dd_Network_c_damage : He.DefD := ⟨("Network", some "damage"), "damage", "Network.damage", defArgs st_Network_c_damage, defBody st_Network_c_damage, defScope st_Network_c_damage, [], [("add", .int 128)]⟩
def dd__law_try : He.DefD := ⟨("_law_try", none), "_law_try", "_law_try", defArgs st__law_try, defBody st__law_try, defScope st__law_try, [], []⟩
def dd__law_like : He.DefD := ⟨("_law_like", none), "_law_like", "_law_like", defArgs st__law_like, defBody st__law_like, defScope st__law_like, [], []⟩
def dd__law_damage : He.DefD := ⟨("_law_damage", none), "_law_damage", "_law_damage", defArgs st__law_damage, defBody st__law_damage, defScope st__law_damage, [], []⟩
def dd_law : He.DefD := ⟨("law", none), "law", "law", defArgs st_law, defBody st_law, defScope st_law, [], []⟩
def fn : List He.DefD := [dd_Network_c___init__, dd__law_cell, dd__law_draws, dd__law_block, dd_Network_c_post, dd_Network_c___len__, dd_Network_c___iter__, dd_Network_c__check, dd_Network_c_packet, dd_Network_c_is_damaged, dd_Network_c_take, dd_Network_c_lose, dd_Network_c_double, dd_Network_c_damage, dd__law_try, dd__law_like, dd__law_damage, dd_law]
def fa : List He.Fa := [.glo "MeridianError", .glo "BadArgument", .glo "Refused", .glo "Network", .glo "_law_cell", .glo "_law_draws", .glo "_law_block", .glo "_law_try", .glo "_law_like", .glo "_law_damage", .glo "law", .free "abs", .free "bool", .free "int", .free "isinstance", .free "iter", .free "len", .free "list", .free "min", .free "range", .free "tuple", .exc "BadArgument", .exc "Refused", .cls "Network", .meth "Network" "__iter__", .meth "Network" "__len__", .meth "Network" "_check", .meth "Network" "damage", .meth "Network" "double", .meth "Network" "is_damaged", .meth "Network" "lose", .meth "Network" "packet", .meth "Network" "post", .meth "Network" "take", .mkr "Network", .noat "Network" "_damaged", .noat "Network" "_packets"]
def ex (K : PySem.W.Frag) : Bool := catB cs (.ref (He.ga K "MeridianError")) ["MeridianError", "BadArgument", "Refused"] K && (isB cs (.ref (He.ga K "BadArgument")) ["BadArgument"] K && (isB cs (.ref (He.ga K "Refused")) ["Refused"] K && (((["MeridianError", "BadArgument", "Refused"] : List String).all fun x => excB x K))))
abbrev R : PySem.W.OpenRow := PySem.W.OpenLaw.row PySem.Challenge.rw_meridian_k17_network_as_a_list
abbrev hk : PySem.W.Hook := He.hookX 5 fa fn [] [] ex
def ob (s : PySem.W.SharedT) : He.AlX := He.obsX 5 fa fn [] [] ex (HandSHeadRun.getT s)
theorem ob_eq (s : PySem.W.SharedT) : ob s = hk.obs s.abs := He.obsX_eq (HandSHeadRun.getT_eq s)
def loose : List Str := (["MeridianError", "BadArgument", "Refused", "Network", "_law_cell", "_law_is_int", "_law_draws", "_law_block", "_law_try", "_law_like", "_law_damage"] : List Str)
theorem run (w : World) : HandSHeadRun.RunEq R (PySem.W.view R.prog [14]) hk ob 6000 loose w := by
  intro os
  kernel_rfl
/-! ### what each def does to plain data -/
/-- Network.__init__(self); slots: self -/
noncomputable def m_Network_c___init__ : Fn := fnM 1 [0] ((mSeq (mSetFld ["Network"] 0 "_packets" (mLst mNil))
  (mSetFld ["Network"] 0 "_damaged" (mLst mNil))))
/-- _law_cell(_law_script, _law_k); slots: _law_script _law_k -/
noncomputable def m__law_cell : Fn := fnM 2 [] ((mSeq (mIfS (mTest (mOp2 fLt (mPeek 1) (mOpN fLen (mCons (mPeek 0) mNil)))) (mRet (mOpN fAbs (mCons (mOpN fIntC (mCons (mIx (mPeek 0) (mPeek 1)) mNil)) mNil))) (M.ret .nx))
  (mRet (M.ret (.int 0)))))
noncomputable def b__law_draws_0 : M Fl := (mSeq (mDrop (mAppend 3 (mOp2 fMod (mOpN fIntC (mCons (mPeek 0) mNil)) (mPeek 2))))
  (mAsg (mOp2 fDiv (mPeek 0) (mPeek 2)) (gPut 0)))
noncomputable def b__law_draws_1 : M Fl := (mSeq (mAsg (mOp2 fMod (mOpN fIntC (mCons (mOp2 fAdd (mOp2 fMulI (mPeek 4) (M.ret (.int 16807))) (mOp2 fMulI (M.ret (.int 7919)) (mPeek 5))) mNil)) (M.ret (.int 2147483647))) (gPut 4))
  (mDrop (mAppend 3 (mOp2 fMod (mOp2 fDiv (mPeek 4) (M.ret (.int 64))) (mPeek 2)))))
/-- _law_draws(_law_cell_here, _law_many, _law_limit); slots: _law_cell_here _law_many _law_limit _law_out _law_mixed _law_k -/
noncomputable def m__law_draws : Fn := fnM 6 [] ((mSeq (mAsg (mLst mNil) (gPut 3))
  (mSeq (mIfS (mTest (mOp2 fGe (mPeek 0) (mOp2 fPow (M.ret (.int 10)) (M.ret (.int 18))))) (mSeq (mFor (iRg1 (mPeek 1)) (gPut 5) b__law_draws_0)
  (mRet (mMove 3))) (M.ret .nx))
  (mSeq (mAsg (mOp2 fMod (mOpN fIntC (mCons (mOp2 fAdd (mOp2 fMulI (mPeek 0) (M.ret (.int 48271))) (M.ret (.int 12345))) mNil)) (M.ret (.int 2147483647))) (gPut 4))
  (mSeq (mFor (iRg1 (mPeek 1)) (gPut 5) b__law_draws_1)
  (mRet (mMove 3)))))))
noncomputable def e__law_block_0 : M D := (mOp2 fMod (mOpN fIntC (mCons (mPeek 2) mNil)) (M.ret (.int 256)))
/-- _law_block(_law_cell_here, _law_many); slots: _law_cell_here _law_many _law_number -/
noncomputable def m__law_block : Fn := fnM 3 [] ((mRet (mComp [2] (iSeq (mCallF 3 m__law_draws (mCons (mVar 0) (mCons (mVar 1) (mCons (M.ret (.int 997)) mNil))))) (gPut 2) mYes e__law_block_0)))
/-- Network.post(self, sender, to, block); slots: self sender to block -/
noncomputable def m_Network_c_post : Fn := fnM 4 [0, 3] ((mSeq (mDrop (mAppP (mPlF ["Network"] "_packets" (mPl 0)) (mFz (mTup (mCons (mVar 1) (mCons (mVar 2) (mCons (mOpN fListOf (mCons (mPeek 3) mNil)) mNil)))))))
  (mDrop (mAppP (mPlF ["Network"] "_damaged" (mPl 0)) (M.ret (.bl false))))))
/-- Network.__len__(self); slots: self -/
noncomputable def m_Network_c___len__ : Fn := fnM 1 [] ((mRet (mOpN fLen (mCons (mFld ["Network"] "_packets" (mPeek 0)) mNil))))
/-- Network._check(self, index); slots: self index -/
noncomputable def m_Network_c__check : Fn := fnM 2 [] ((mIfS (mOrT (mTest (mOp2 fLt (mPeek 1) (M.ret (.int 0)))) (mTest (mOp2 fGe (mPeek 1) (mOpN fLen (mCons (mFld ["Network"] "_packets" (mPeek 0)) mNil))))) (mRaise "BadArgument") (M.ret .nx)))
/-- Network.packet(self, index); slots: self index sender to block -/
noncomputable def m_Network_c_packet : Fn := fnM 5 [0] ((mSeq (mDrop (mMethB "Network" "_check" 2 m_Network_c__check (mPeek 0) (mCons (mPeek 1) mNil)))
  (mSeq (mAsg (mSh (mIx (mFld ["Network"] "_packets" (mPeek 0)) (mPeek 1))) (gTupM 3 (gConsM (gPut 2) (gConsM (gPut 3) (gConsM (gPut 4) gNilM)))))
  (mRet (mTup (mCons (mVar 2) (mCons (mVar 3) (mCons (mOpN fListOf (mCons (mPeek 4) mNil)) mNil))))))))
/-- Network.is_damaged(self, index); slots: self index -/
noncomputable def m_Network_c_is_damaged : Fn := fnM 2 [0] ((mSeq (mDrop (mMethB "Network" "_check" 2 m_Network_c__check (mPeek 0) (mCons (mPeek 1) mNil)))
  (mRet (mSh (mIx (mFld ["Network"] "_damaged" (mPeek 0)) (mPeek 1))))))
/-- Network.take(self, index); slots: self index packet -/
noncomputable def m_Network_c_take : Fn := fnM 3 [0] ((mSeq (mDrop (mMethB "Network" "_check" 2 m_Network_c__check (mPeek 0) (mCons (mPeek 1) mNil)))
  (mSeq (mAsg (mSh (mIx (mFld ["Network"] "_packets" (mPeek 0)) (mPeek 1))) (gPut 2))
  (mSeq (mSetFld ["Network"] 0 "_packets" (mOp2 fAdd (mSl (mFld ["Network"] "_packets" (mPeek 0)) (M.ret none) (mPart (mPeek 1))) (mSl (mFld ["Network"] "_packets" (mPeek 0)) (mPart (mOp2 fAdd (mPeek 1) (M.ret (.int 1)))) (M.ret none))))
  (mSeq (mSetFld ["Network"] 0 "_damaged" (mOp2 fAdd (mSl (mFld ["Network"] "_damaged" (mPeek 0)) (M.ret none) (mPart (mPeek 1))) (mSl (mFld ["Network"] "_damaged" (mPeek 0)) (mPart (mOp2 fAdd (mPeek 1) (M.ret (.int 1)))) (M.ret none))))
  (mRet (mMove 2)))))))
/-- Network.lose(self, index); slots: self index -/
noncomputable def m_Network_c_lose : Fn := fnM 2 [0] ((mDrop (mMeth "Network" "take" 0 m_Network_c_take [0] [none] (mCons (mVar 1) mNil))))
/-- Network.double(self, index); slots: self index sender to block -/
noncomputable def m_Network_c_double : Fn := fnM 5 [0] ((mSeq (mAsg (mMeth "Network" "packet" 0 m_Network_c_packet [0] [none] (mCons (mVar 1) mNil)) (gTupM 3 (gConsM (gPut 2) (gConsM (gPut 3) (gConsM (gPut 4) gNilM)))))
  (mSeq (mDrop (mAppP (mPlF ["Network"] "_packets" (mPl 0)) (mFz (mTup (mCons (mVar 2) (mCons (mVar 3) (mCons (mVar 4) mNil)))))))
  (mDrop (mAppP (mPlF ["Network"] "_damaged" (mPl 0)) (mSh (mIx (mFld ["Network"] "_damaged" (mPeek 0)) (mPeek 1))))))))
/-- Network.damage(self, index, at, add); slots: self index at add sender to block -/
noncomputable def m_Network_c_damage : Fn := fnM 7 [0] ((mSeq (mDrop (mMethB "Network" "_check" 2 m_Network_c__check (mPeek 0) (mCons (mPeek 1) mNil)))
  (mSeq (mAsg (mMeth "Network" "packet" 0 m_Network_c_packet [0] [none] (mCons (mVar 1) mNil)) (gTupM 3 (gConsM (gPut 4) (gConsM (gPut 5) (gConsM (gPut 6) gNilM)))))
  (mSeq (mIfS (mOrT (mTest (mOp2 fLt (mPeek 2) (M.ret (.int 0)))) (mOrT (mTest (mOp2 fGe (mPeek 2) (mOpN fLen (mCons (mPeek 6) mNil)))) (mOrT (mTest (mOp2 fLt (mPeek 3) (M.ret (.int 1)))) (mTest (mOp2 fGt (mPeek 3) (M.ret (.int 255))))))) (mRaise "BadArgument") (M.ret .nx))
  (mSeq (mIfS (mTest (mIx (mFld ["Network"] "_damaged" (mPeek 0)) (mPeek 1))) (mRaise "Refused") (M.ret .nx))
  (mSeq (mSetIx 6 (mOp2 fMod (mOp2 fAdd (mIx (mPeek 6) (mPeek 2)) (mPeek 3)) (M.ret (.int 256))) (mPeek 2))
  (mSeq (mLPutP (mPlF ["Network"] "_packets" (mPl 0)) (mTup (mCons (mVar 4) (mCons (mVar 5) (mCons (mVar 6) mNil)))) (mPeek 1))
  (mLPutP (mPlF ["Network"] "_damaged" (mPl 0)) (M.ret (.bl true)) (mPeek 1)))))))))
/-- _law_try(_law_network, _law_kind, _law_index, _law_at, _law_step); slots: _law_network _law_kind _law_index _law_at _law_step e -/
noncomputable def m__law_try : Fn := fnM 6 [0] ((mSeq (mTryAs 5 (mSeq (mIfS (mTest (mOp2 fEq (mPeek 1) (M.ret (.int 0)))) (mRet (mMeth "Network" "take" 0 m_Network_c_take [0] [none] (mCons (mVar 2) mNil))) (M.ret .nx))
  (mIfS (mTest (mOp2 fEq (mPeek 1) (M.ret (.int 1)))) (mDrop (mMeth "Network" "lose" 0 m_Network_c_lose [0] [none] (mCons (mVar 2) mNil))) (mIfS (mTest (mOp2 fEq (mPeek 1) (M.ret (.int 2)))) (mDrop (mMeth "Network" "double" 0 m_Network_c_double [0] [none] (mCons (mVar 2) mNil))) (mIfS (mTest (mOp2 fEq (mPeek 1) (M.ret (.int 3)))) (mDrop (mMethK "Network" "damage" 0 m_Network_c_damage [0] 2 2 (mCons (mPeek 2) mNil) (mCons (mPeek 3) (mCons (mPeek 4) mNil)))) (mIfS (mTest (mOp2 fEq (mPeek 1) (M.ret (.int 4)))) (mDrop (mMeth "Network" "packet" 0 m_Network_c_packet [0] [none] (mCons (mVar 2) mNil))) (mDrop (mMeth "Network" "is_damaged" 0 m_Network_c_is_damaged [0] [none] (mCons (mVar 2) mNil)))))))) (fun x => decide (x ∈ (["MeridianError", "BadArgument", "Refused"] : List String))) fun cn => (mRet (mLst (mCons (M.ret (.bl (decide (cn ∈ (["BadArgument"] : List String))))) (mCons (M.ret (.bl (decide (cn ∈ (["Refused"] : List String))))) mNil)))))
  (mRet (M.ret .non))))
noncomputable def e__law_like_0 : M D := (mTup (mCons (mVar 7) (mCons (mVar 8) (mCons (mOpN fListOf (mCons (mPeek 9) mNil)) mNil))))
noncomputable def e__law_like_1 : M D := (mTup (mCons (mSh (mIx (mPeek 6) (M.ret (.int 0)))) (mCons (mSh (mIx (mPeek 6) (M.ret (.int 1)))) (mCons (mSh (mIx (mPeek 6) (M.ret (.int 2)))) mNil))))
noncomputable def b__law_like_2 : M Fl := (mSeq (mAsg (mMeth "Network" "packet" 0 m_Network_c_packet [0] [none] (mCons (mVar 2) mNil)) (gPut 4))
  (mSeq (mIfS (mFrzT (mOrT (mNotT (mTest (mIsi (isiB "tuple") (mPeek 4)))) (mTest (mOp2 fNe (mPeek 4) (mTup (mCons (mSh (mIx (mIx (mPeek 1) (mPeek 2)) (M.ret (.int 0)))) (mCons (mSh (mIx (mIx (mPeek 1) (mPeek 2)) (M.ret (.int 1)))) (mCons (mSh (mIx (mIx (mPeek 1) (mPeek 2)) (M.ret (.int 2)))) mNil)))))))) (mRet (M.ret (.bl false))) (M.ret .nx))
  (mSeq (mDrop (mAppP (mPlT (mPl 4) (M.ret (.int 2))) (M.ret (.int 7))))
  (mIfS (mOrT (mNotT (mTest (mIsi (isiB "bool") (mMeth "Network" "is_damaged" 0 m_Network_c_is_damaged [0] [none] (mCons (mVar 2) mNil))))) (mTest (mOp2 fNe (mMeth "Network" "is_damaged" 0 m_Network_c_is_damaged [0] [none] (mCons (mVar 2) mNil)) (mIx (mIx (mPeek 1) (mPeek 2)) (M.ret (.int 3)))))) (mRet (M.ret (.bl false))) (M.ret .nx)))))
noncomputable def b__law_like_3 : M Fl := (mIfS (mTest (mOp2 fNe (mCall m__law_try [0] [some 0, none, none, none, none] (mCons (mMove 0) (mCons (mVar 5) (mCons (mVar 3) (mCons (M.ret (.int 0)) (mCons (M.ret (.int 1)) mNil)))))) (mLst (mCons (M.ret (.bl true)) (mCons (M.ret (.bl false)) mNil))))) (mRet (M.ret (.bl false))) (M.ret .nx))
noncomputable def b__law_like_4 : M Fl := (mFor (iRg1 (M.ret (.int 6))) (gPut 5) b__law_like_3)
/-- _law_like(_law_network, _law_rows); slots: _law_network _law_rows _law_k _law_index _law_packet _law_kind _law_row _law_sender _law_to _law_block_here -/
noncomputable def m__law_like : Fn := fnM 10 [0, 1] ((mSeq (mIfS (mTest (mOp2 fNe (mLenO "Network" m_Network_c___len__ (mPeek 0)) (mOpN fLen (mCons (mPeek 1) mNil)))) (mRet (M.ret (.bl false))) (M.ret .nx))
  (mSeq (mIfS (mFrzT (mTest (mOp2 fNe (mComp [7, 8, 9] (iOwnI "Network" "_packets" 0) (gTupM 3 (gConsM (gPut 7) (gConsM (gPut 8) (gConsM (gPut 9) gNilM)))) mYes e__law_like_0) (mComp [6] (iSeq (mVar 1)) (gPut 6) mYes e__law_like_1)))) (mRet (M.ret (.bl false))) (M.ret .nx))
  (mSeq (mFor (iRg1 (mOpN fLen (mCons (mPeek 1) mNil))) (gPut 2) b__law_like_2)
  (mSeq (mFor (iSeq (mLst (mCons (mOpN fLen (mCons (mPeek 1) mNil)) (mCons (mOp2 fSub (mOp1 fNeg (M.ret (.int 1))) (mOpN fLen (mCons (mPeek 1) mNil))) (mCons (mOp1 fNeg (M.ret (.int 1))) (mCons (mOp2 fAdd (mOpN fLen (mCons (mPeek 1) mNil)) (M.ret (.int 5))) mNil)))))) (gPut 3) b__law_like_4)
  (mRet (M.ret (.bl true))))))))
noncomputable def b__law_damage_0 : M Fl := (mSeq (mAsg (mOp2 fSub (mOp2 fMod (mOpN fIntC (mCons (mPeek 3) mNil)) (mOp2 fAdd (mOpN fLen (mCons (mIx (mPeek 4) (M.ret (.int 2))) mNil)) (M.ret (.int 2)))) (M.ret (.int 1))) (gPut 5))
  (mSeq (mAsg (mSh (mIx (mLst (mCons (mOp2 fMod (mOpN fIntC (mCons (mPeek 3) mNil)) (M.ret (.int 257))) (mCons (mOp2 fAdd (M.ret (.int 1)) (mOp2 fMod (mOpN fIntC (mCons (mPeek 3) mNil)) (M.ret (.int 255)))) mNil))) (mOp2 fMod (mOp2 fDiv (mPeek 3) (M.ret (.int 3))) (M.ret (.int 2))))) (gPut 6))
  (mSeq (mAsg (mCall m__law_try [0] [some 0, none, none, none, none] (mCons (mMove 0) (mCons (M.ret (.int 3)) (mCons (mVar 2) (mCons (mVar 5) (mCons (mVar 6) mNil)))))) (gPut 7))
  (mSeq (mIfS (mOrT (mTest (mOp2 fLt (mPeek 5) (M.ret (.int 0)))) (mOrT (mTest (mOp2 fGe (mPeek 5) (mOpN fLen (mCons (mIx (mPeek 4) (M.ret (.int 2))) mNil)))) (mOrT (mTest (mOp2 fLt (mPeek 6) (M.ret (.int 1)))) (mTest (mOp2 fGt (mPeek 6) (M.ret (.int 255))))))) (mRet (mOp2 fEq (mPeek 7) (mLst (mCons (M.ret (.bl true)) (mCons (M.ret (.bl false)) mNil))))) (M.ret .nx))
  (mSeq (mIfS (mTest (mIx (mPeek 4) (M.ret (.int 3)))) (mRet (mOp2 fEq (mPeek 7) (mLst (mCons (M.ret (.bl false)) (mCons (M.ret (.bl true)) mNil))))) (M.ret .nx))
  (mSeq (mSetIx 4 (mOpN fListOf (mCons (mIx (mPeek 4) (M.ret (.int 2))) mNil)) (M.ret (.int 2)))
  (mSeq (mLPutP (mPlI (mPl 4) (M.ret (.int 2))) (mOp2 fMod (mOpN fIntC (mCons (mOp2 fAdd (mIx (mIx (mPeek 4) (M.ret (.int 2))) (mPeek 5)) (mPeek 6)) mNil)) (M.ret (.int 256))) (mPeek 5))
  (mSeq (mSetIx 4 (M.ret (.bl true)) (M.ret (.int 3)))
  (mRet (mOp2 fIs (mPeek 7) (M.ret .non)))))))))))
/-- _law_damage(_law_network, _law_rows, _law_index, _law_cell_here); slots: _law_network _law_rows _law_index _law_cell_here _law_row _law_at _law_step _law_told -/
noncomputable def m__law_damage : Fn := fnM 8 [0, 1] ((mBorrow (mPlI (mPl 1) (mPeek 2)) 1 4 b__law_damage_0))
noncomputable def b_law_0 : M Fl := (mSeq (mAsg (mCallB 2 m__law_cell (mCons (mPeek 0) (mCons (mPeek 3) mNil))) (gPut 4))
  (mSeq (mAsg (mOp2 fMod (mOpN fIntC (mCons (mPeek 4) mNil)) (M.ret (.int 7))) (gPut 5))
  (mSeq (mAsg (mOp2 fDiv (mPeek 4) (M.ret (.int 7))) (gPut 4))
  (mSeq (mIfS (mOrT (mTest (mOp2 fLt (mPeek 5) (M.ret (.int 3)))) (mTest (mOp2 fEq (mPeek 2) (mLst mNil)))) (mSeq (mAsg (mCallF 2 m__law_block (mCons (mVar 4) (mCons (mOp2 fMod (mOpN fIntC (mCons (mPeek 4) mNil)) (M.ret (.int 5))) mNil))) (gPut 6))
  (mSeq (mDrop (mMeth "Network" "post" 1 m_Network_c_post [0, 3] [none, none, some 6] (mCons (mOp2 fMod (mOpN fIntC (mCons (mPeek 4) mNil)) (M.ret (.int 9))) (mCons (mOp2 fMod (mOp2 fDiv (mPeek 4) (M.ret (.int 9))) (M.ret (.int 9))) (mCons (mMove 6) mNil)))))
  (mSeq (mDrop (mAppend 2 (mLst (mCons (mOp2 fMod (mOpN fIntC (mCons (mPeek 4) mNil)) (M.ret (.int 9))) (mCons (mOp2 fMod (mOp2 fDiv (mPeek 4) (M.ret (.int 9))) (M.ret (.int 9))) (mCons (mOpN fListOf (mCons (mPeek 6) mNil)) (mCons (M.ret (.bl false)) mNil)))))))
  (mDrop (mAppend 6 (M.ret (.int 1))))))) (mSeq (mAsg (mOp2 fMod (mOpN fIntC (mCons (mPeek 4) mNil)) (mOpN fLen (mCons (mPeek 2) mNil))) (gPut 7))
  (mSeq (mIfS (mAndT (mTest (mOp2 fEq (mPeek 5) (M.ret (.int 3)))) (mTest (mOp2 fNe (mCall m__law_try [0] [some 1, none, none, none, none] (mCons (mMove 1) (mCons (M.ret (.int 0)) (mCons (mVar 7) (mCons (M.ret (.int 0)) (mCons (M.ret (.int 1)) mNil)))))) (mTupL (mCons (mIx (mIx (mPeek 2) (mPeek 7)) (M.ret (.int 0))) (mCons (mIx (mIx (mPeek 2) (mPeek 7)) (M.ret (.int 1))) (mCons (mIx (mIx (mPeek 2) (mPeek 7)) (M.ret (.int 2))) mNil))))))) (mRet (M.ret (.bl false))) (M.ret .nx))
  (mSeq (mIfS (mAndT (mTest (mOp2 fEq (mPeek 5) (M.ret (.int 4)))) (mTest (mOp2 fIsNot (mCall m__law_try [0] [some 1, none, none, none, none] (mCons (mMove 1) (mCons (M.ret (.int 1)) (mCons (mVar 7) (mCons (M.ret (.int 0)) (mCons (M.ret (.int 1)) mNil)))))) (M.ret .non)))) (mRet (M.ret (.bl false))) (M.ret .nx))
  (mSeq (mIfS (mOrT (mTest (mOp2 fEq (mPeek 5) (M.ret (.int 3)))) (mTest (mOp2 fEq (mPeek 5) (M.ret (.int 4))))) (mCut2 2 (mPeek 7) (mOp2 fAdd (mPeek 7) (M.ret (.int 1)))) (M.ret .nx))
  (mSeq (mIfS (mTest (mOp2 fEq (mPeek 5) (M.ret (.int 5)))) (mSeq (mIfS (mTest (mOp2 fIsNot (mCall m__law_try [0] [some 1, none, none, none, none] (mCons (mMove 1) (mCons (M.ret (.int 2)) (mCons (mVar 7) (mCons (M.ret (.int 0)) (mCons (M.ret (.int 1)) mNil)))))) (M.ret .non))) (mRet (M.ret (.bl false))) (M.ret .nx))
  (mDrop (mAppend 2 (mLst (mCons (mSh (mIx (mIx (mPeek 2) (mPeek 7)) (M.ret (.int 0)))) (mCons (mSh (mIx (mIx (mPeek 2) (mPeek 7)) (M.ret (.int 1)))) (mCons (mOpN fListOf (mCons (mIx (mIx (mPeek 2) (mPeek 7)) (M.ret (.int 2))) mNil)) (mCons (mSh (mIx (mIx (mPeek 2) (mPeek 7)) (M.ret (.int 3)))) mNil)))))))) (M.ret .nx))
  (mIfS (mAndT (mTest (mOp2 fEq (mPeek 5) (M.ret (.int 6)))) (mNotT (mTest (mCall m__law_damage [0, 1] [some 1, some 2, none, none] (mCons (mMove 1) (mCons (mMove 2) (mCons (mVar 7) (mCons (mOp2 fDiv (mPeek 4) (M.ret (.int 3))) mNil)))))))) (mRet (M.ret (.bl false))) (M.ret .nx))))))))
  (mIfS (mNotT (mTest (mCall m__law_like [0, 1] [some 1, some 2] (mCons (mMove 1) (mCons (mMove 2) mNil))))) (mRet (M.ret (.bl false))) (M.ret .nx))))))
/-- law(_law_script); slots: _law_script _law_network _law_rows _law_k _law_cell_here _law_kind _law_block_here _law_index -/
noncomputable def m_law : Fn := fnM 8 [] ((mSeq (mAsg (mMake "Network" 1 m_Network_c___init__ mNil) (gPut 1))
  (mSeq (mAsg (mLst mNil) (gPut 2))
  (mSeq (mFor (iRg1 (mOpN fMin2 (mCons (M.ret (.int 40)) (mCons (mOpN fLen (mCons (mPeek 0) mNil)) mNil)))) (gPut 3) b_law_0)
  (mRet (M.ret (.bl true)))))))
/-! ### what the top has written -/
structure Txt (K : PySem.W.Frag) (mg : Str → Option Value) : Prop where
  g_MeridianError : mg "MeridianError" = some (.ref (He.ga K "MeridianError"))
  g_BadArgument : mg "BadArgument" = some (.ref (He.ga K "BadArgument"))
  g_Refused : mg "Refused" = some (.ref (He.ga K "Refused"))
  g_Network : mg "Network" = some (.ref (He.ga K "Network"))
  g__law_cell : mg "_law_cell" = some (.ref (He.ga K "_law_cell"))
  g__law_draws : mg "_law_draws" = some (.ref (He.ga K "_law_draws"))
  g__law_block : mg "_law_block" = some (.ref (He.ga K "_law_block"))
  g__law_try : mg "_law_try" = some (.ref (He.ga K "_law_try"))
  g__law_like : mg "_law_like" = some (.ref (He.ga K "_law_like"))
  g__law_damage : mg "_law_damage" = some (.ref (He.ga K "_law_damage"))
  g_law : mg "law" = some (.ref (He.ga K "law"))
  b_abs : mg "abs" = none
  b_bool : mg "bool" = none
  b_int : mg "int" = none
  b_isinstance : mg "isinstance" = none
  b_iter : mg "iter" = none
  b_len : mg "len" = none
  b_list : mg "list" = none
  b_min : mg "min" = none
  b_range : mg "range" = none
  b_tuple : mg "tuple" = none
  x_BadArgument : (He.Fa.exc "BadArgument").ok K = true
  x_Refused : (He.Fa.exc "Refused").ok K = true
  cl_Network : Cls K (He.ga K "Network")
  me_Network_c___iter__ : Meth K (He.ga K "Network") "__iter__" (He.ma K (He.ga K "Network") "__iter__")
  me_Network_c___len__ : Meth K (He.ga K "Network") "__len__" (He.ma K (He.ga K "Network") "__len__")
  me_Network_c__check : Meth K (He.ga K "Network") "_check" (He.ma K (He.ga K "Network") "_check")
  me_Network_c_damage : Meth K (He.ga K "Network") "damage" (He.ma K (He.ga K "Network") "damage")
  me_Network_c_double : Meth K (He.ga K "Network") "double" (He.ma K (He.ga K "Network") "double")
  me_Network_c_is_damaged : Meth K (He.ga K "Network") "is_damaged" (He.ma K (He.ga K "Network") "is_damaged")
  me_Network_c_lose : Meth K (He.ga K "Network") "lose" (He.ma K (He.ga K "Network") "lose")
  me_Network_c_packet : Meth K (He.ga K "Network") "packet" (He.ma K (He.ga K "Network") "packet")
  me_Network_c_post : Meth K (He.ga K "Network") "post" (He.ma K (He.ga K "Network") "post")
  me_Network_c_take : Meth K (He.ga K "Network") "take" (He.ma K (He.ga K "Network") "take")
  mk_Network : Mk K (He.ga K "Network") (He.ma K (He.ga K "Network") "__init__")
  f__damaged : FldOk K (clT cs K) ["Network"] "_damaged"
  f__packets : FldOk K (clT cs K) ["Network"] "_packets"
  c_MeridianError : catB cs (.ref (He.ga K "MeridianError")) ["MeridianError", "BadArgument", "Refused"] K = true
  i_BadArgument : isB cs (.ref (He.ga K "BadArgument")) ["BadArgument"] K = true
  i_Refused : isB cs (.ref (He.ga K "Refused")) ["Refused"] K = true
  e_all : ((["MeridianError", "BadArgument", "Refused"] : List String).all fun x => excB x K) = true
  d_Network_c___init__ : ∃ fd, FunD K "__init__" "Network.__init__" (defArgs st_Network_c___init__) (defBody st_Network_c___init__) (defScope st_Network_c___init__) [] [] (He.ma K (He.ga K "Network") "__init__") fd
  d__law_cell : ∃ fd, FunD K "_law_cell" "_law_cell" (defArgs st__law_cell) (defBody st__law_cell) (defScope st__law_cell) [] [] (He.ga K "_law_cell") fd
  d__law_draws : ∃ fd, FunD K "_law_draws" "_law_draws" (defArgs st__law_draws) (defBody st__law_draws) (defScope st__law_draws) [] [] (He.ga K "_law_draws") fd
  d__law_block : ∃ fd, FunD K "_law_block" "_law_block" (defArgs st__law_block) (defBody st__law_block) (defScope st__law_block) [] [] (He.ga K "_law_block") fd
  d_Network_c_post : ∃ fd, FunD K "post" "Network.post" (defArgs st_Network_c_post) (defBody st_Network_c_post) (defScope st_Network_c_post) [] [] (He.ma K (He.ga K "Network") "post") fd
  d_Network_c___len__ : ∃ fd, FunD K "__len__" "Network.__len__" (defArgs st_Network_c___len__) (defBody st_Network_c___len__) (defScope st_Network_c___len__) [] [] (He.ma K (He.ga K "Network") "__len__") fd
  d_Network_c___iter__ : ∃ fd, FunD K "__iter__" "Network.__iter__" (defArgs st_Network_c___iter__) (defBody st_Network_c___iter__) (defScope st_Network_c___iter__) [] [] (He.ma K (He.ga K "Network") "__iter__") fd
  d_Network_c__check : ∃ fd, FunD K "_check" "Network._check" (defArgs st_Network_c__check) (defBody st_Network_c__check) (defScope st_Network_c__check) [] [] (He.ma K (He.ga K "Network") "_check") fd
  d_Network_c_packet : ∃ fd, FunD K "packet" "Network.packet" (defArgs st_Network_c_packet) (defBody st_Network_c_packet) (defScope st_Network_c_packet) [] [] (He.ma K (He.ga K "Network") "packet") fd
  d_Network_c_is_damaged : ∃ fd, FunD K "is_damaged" "Network.is_damaged" (defArgs st_Network_c_is_damaged) (defBody st_Network_c_is_damaged) (defScope st_Network_c_is_damaged) [] [] (He.ma K (He.ga K "Network") "is_damaged") fd
  d_Network_c_take : ∃ fd, FunD K "take" "Network.take" (defArgs st_Network_c_take) (defBody st_Network_c_take) (defScope st_Network_c_take) [] [] (He.ma K (He.ga K "Network") "take") fd
  d_Network_c_lose : ∃ fd, FunD K "lose" "Network.lose" (defArgs st_Network_c_lose) (defBody st_Network_c_lose) (defScope st_Network_c_lose) [] [] (He.ma K (He.ga K "Network") "lose") fd
  d_Network_c_double : ∃ fd, FunD K "double" "Network.double" (defArgs st_Network_c_double) (defBody st_Network_c_double) (defScope st_Network_c_double) [] [] (He.ma K (He.ga K "Network") "double") fd
  d_Network_c_damage : ∃ fd, FunD K "damage" "Network.damage" (defArgs st_Network_c_damage) (defBody st_Network_c_damage) (defScope st_Network_c_damage) [] [("add", .int 128)] (He.ma K (He.ga K "Network") "damage") fd
  d__law_try : ∃ fd, FunD K "_law_try" "_law_try" (defArgs st__law_try) (defBody st__law_try) (defScope st__law_try) [] [] (He.ga K "_law_try") fd
  d__law_like : ∃ fd, FunD K "_law_like" "_law_like" (defArgs st__law_like) (defBody st__law_like) (defScope st__law_like) [] [] (He.ga K "_law_like") fd
  d__law_damage : ∃ fd, FunD K "_law_damage" "_law_damage" (defArgs st__law_damage) (defBody st__law_damage) (defScope st__law_damage) [] [] (He.ga K "_law_damage") fd
  d_law : ∃ fd, FunD K "law" "law" (defArgs st_law) (defBody st_law) (defScope st_law) [] [] (He.ga K "law") fd
section
variable {P : Program} {w : World} {K : PySem.W.Frag} {mg : Str → Option Value} {base : Heap}
theorem excT (t : Txt K mg) {cn : String} {C : Addr} (ec : clT cs K cn = some C) {l : List String} (ef : decide (cn ∈ l) = true) (hl : ∀ x ∈ l, x ∈ (["MeridianError", "BadArgument", "Refused"] : List String) := by decide) : ExcC K C := by
  obtain ⟨_, rfl⟩ := clT_of ec
  exact excB_ok (List.all_eq_true.mp t.e_all cn (hl cn (of_decide_eq_true ef)))
abbrev N_Network_c___init__ : List Str := ["self"]
theorem sc_Network_c___init__ : FnScope N_Network_c___init__ ["self"] (defScope st_Network_c___init__) := ⟨rfl, rfl, rfl, by decide +kernel, rfl, by decide +kernel, by decide +kernel⟩
theorem bn_Network_c___init__ {fd : FuncData} (F : FunD K "__init__" "Network.__init__" (defArgs st_Network_c___init__) (defBody st_Network_c___init__) (defScope st_Network_c___init__) [] [] (He.ma K (He.ga K "Network") "__init__") fd) : Binds K fd ["self"] [] := F.bindsN fun _ _ _ _ _ _ us hl => match us, hl with | [_], _ => rfl
theorem ok_Network_c___init__ (t : Txt K mg) {fd : FuncData} (F : FunD K "__init__" "Network.__init__" (defArgs st_Network_c___init__) (defBody st_Network_c___init__) (defScope st_Network_c___init__) [] [] (He.ma K (He.ga K "Network") "__init__") fd) : FnOk P w K mg base (L2.CX P w) 1 (He.ma K (He.ga K "Network") "__init__") fd ["self"] (spV K (clT cs K) 1 [0] m_Network_c___init__) := by
  have nd : N_Network_c___init__.Nodup := sc_Network_c___init__.nd
  refine fn_okD (n := 1) F sc_Network_c___init__ rfl (by decide) (by decide) fun cdv A outer s H E hr => ?_
  have hu := hu64 hr
  have hu5 := hu65 hr
  exact (qss_cons (qs_setFld t.f__packets (i := 0) rfl (by first | exact Or.inl rfl | exact Or.inr (Or.inl rfl) | exact Or.inr (Or.inr rfl)) (qe_lst qa_nil))
  (qss_one (qs_setFld t.f__damaged (i := 0) rfl (by first | exact Or.inl rfl | exact Or.inr (Or.inl rfl) | exact Or.inr (Or.inr rfl)) (qe_lst qa_nil))))
abbrev N__law_cell : List Str := ["_law_script", "_law_k"]
theorem sc__law_cell : FnScope N__law_cell ["_law_script", "_law_k"] (defScope st__law_cell) := ⟨rfl, rfl, rfl, by decide +kernel, rfl, by decide +kernel, by decide +kernel⟩
theorem bn__law_cell {fd : FuncData} (F : FunD K "_law_cell" "_law_cell" (defArgs st__law_cell) (defBody st__law_cell) (defScope st__law_cell) [] [] (He.ga K "_law_cell") fd) : Binds K fd ["_law_script", "_law_k"] [] := F.bindsN fun _ _ _ _ _ _ us hl => match us, hl with | [_, _], _ => rfl
theorem ok__law_cell (t : Txt K mg) {fd : FuncData} (F : FunD K "_law_cell" "_law_cell" (defArgs st__law_cell) (defBody st__law_cell) (defScope st__law_cell) [] [] (He.ga K "_law_cell") fd) : FnOk P w K mg base (L2.CX P w) 1 (He.ga K "_law_cell") fd ["_law_script", "_law_k"] (spV K (clT cs K) 2 [] m__law_cell) := by
  have nd : N__law_cell.Nodup := sc__law_cell.nd
  refine fn_okD (n := 2) F sc__law_cell rfl (by decide) (by decide) fun cdv A outer s H E hr => ?_
  have hu := hu64 hr
  have hu5 := hu65 hr
  exact (qss_cons (qs_if (qt_cmp op_ltU lt_ok (qb_peek (i := 1) rfl (by first | exact Or.inl rfl | exact Or.inr (Or.inl rfl) | exact Or.inr (Or.inr rfl))) (qb_of (qe_callB call_len len_ok rfl t.b_len (by decide +kernel) (qab_cons (qb_peek (i := 0) rfl (by first | exact Or.inl rfl | exact Or.inr (Or.inl rfl) | exact Or.inr (Or.inr rfl))) qab_nil))) (nomark _)) (qss_one (qs_ret (qe_callB call_abs abs_ok rfl t.b_abs (by decide +kernel) (qab_cons (qb_of (qe_callTy call_int1 intc_ok rfl t.b_int (by decide +kernel) (qab_cons (qb_ix (qb_peek (i := 0) rfl (by first | exact Or.inl rfl | exact Or.inr (Or.inl rfl) | exact Or.inr (Or.inr rfl))) (qb_peek (i := 1) rfl (by first | exact Or.inl rfl | exact Or.inr (Or.inl rfl) | exact Or.inr (Or.inr rfl)))) qab_nil))) qab_nil)))) qss_nil)
  (qss_one (qs_ret qe_int)))
abbrev N__law_draws : List Str := ["_law_cell_here", "_law_many", "_law_limit", "_law_out", "_law_mixed", "_law_k"]
theorem sc__law_draws : FnScope N__law_draws ["_law_cell_here", "_law_many", "_law_limit"] (defScope st__law_draws) := ⟨rfl, rfl, rfl, by decide +kernel, rfl, by decide +kernel, by decide +kernel⟩
theorem bn__law_draws {fd : FuncData} (F : FunD K "_law_draws" "_law_draws" (defArgs st__law_draws) (defBody st__law_draws) (defScope st__law_draws) [] [] (He.ga K "_law_draws") fd) : Binds K fd ["_law_cell_here", "_law_many", "_law_limit"] [] := F.bindsN fun _ _ _ _ _ _ us hl => match us, hl with | [_, _, _], _ => rfl
theorem ok__law_draws (t : Txt K mg) {fd : FuncData} (F : FunD K "_law_draws" "_law_draws" (defArgs st__law_draws) (defBody st__law_draws) (defScope st__law_draws) [] [] (He.ga K "_law_draws") fd) : FnOk P w K mg base (L2.CX P w) 1 (He.ga K "_law_draws") fd ["_law_cell_here", "_law_many", "_law_limit"] (spV K (clT cs K) 3 [] m__law_draws) := by
  have nd : N__law_draws.Nodup := sc__law_draws.nd
  refine fn_okD (n := 6) F sc__law_draws rfl (by decide) (by decide) fun cdv A outer s H E hr => ?_
  have hu := hu64 hr
  have hu5 := hu65 hr
  exact (qss_cons (qs_set (i := 3) nd rfl (by first | exact Or.inl rfl | exact Or.inr rfl) (by decide) (qe_lst qa_nil))
  (qss_cons (qs_if (qt_cmp op_geU ge_ok (qb_peek (i := 0) rfl (by first | exact Or.inl rfl | exact Or.inr (Or.inl rfl) | exact Or.inr (Or.inr rfl))) (qb_of (qe_op2 op_pow pow_ok (qb_of qe_int) (qb_of qe_int))) (nomark _)) (qss_cons (qs_for (passes_of rfl) rfl (qi_range1 (qb_peek (i := 1) rfl (by first | exact Or.inl rfl | exact Or.inr (Or.inl rfl) | exact Or.inr (Or.inr rfl))) rfl t.b_range) (qg_name (i := 5) nd rfl (by first | exact Or.inl rfl | exact Or.inr rfl) (by decide)) (qss_cons (qs_expr (qe_append (i := 3) rfl (by first | exact Or.inl rfl | exact Or.inr (Or.inl rfl) | exact Or.inr (Or.inr rfl)) (qe_op2 op_mod mod_ok (qb_of (qe_callTy call_int1 intc_ok rfl t.b_int (by decide +kernel) (qab_cons (qb_peek (i := 0) rfl (by first | exact Or.inl rfl | exact Or.inr (Or.inl rfl) | exact Or.inr (Or.inr rfl))) qab_nil))) (qb_peek (i := 2) rfl (by first | exact Or.inl rfl | exact Or.inr (Or.inl rfl) | exact Or.inr (Or.inr rfl))))))
  (qss_one (qs_set (i := 0) nd rfl (by first | exact Or.inl rfl | exact Or.inr rfl) (by decide) (qe_op2 op_fdiv div_ok (qb_peek (i := 0) rfl (by first | exact Or.inl rfl | exact Or.inr (Or.inl rfl) | exact Or.inr (Or.inr rfl))) (qb_peek (i := 2) rfl (by first | exact Or.inl rfl | exact Or.inr (Or.inl rfl) | exact Or.inr (Or.inr rfl))))))))
  (qss_one (qs_ret (qe_move (i := 3) rfl (by first | exact Or.inl rfl | exact Or.inr (Or.inl rfl) | exact Or.inr (Or.inr rfl)))))) qss_nil)
  (qss_cons (qs_set (i := 4) nd rfl (by first | exact Or.inl rfl | exact Or.inr rfl) (by decide) (qe_op2 op_mod mod_ok (qb_of (qe_callTy call_int1 intc_ok rfl t.b_int (by decide +kernel) (qab_cons (qb_of (qe_op2 op_addU add_ok (qb_of (qe_op2 op_mul mul_ok (qb_peek (i := 0) rfl (by first | exact Or.inl rfl | exact Or.inr (Or.inl rfl) | exact Or.inr (Or.inr rfl))) (qb_of qe_int))) (qb_of qe_int))) qab_nil))) (qb_of qe_int)))
  (qss_cons (qs_for (passes_of rfl) rfl (qi_range1 (qb_peek (i := 1) rfl (by first | exact Or.inl rfl | exact Or.inr (Or.inl rfl) | exact Or.inr (Or.inr rfl))) rfl t.b_range) (qg_name (i := 5) nd rfl (by first | exact Or.inl rfl | exact Or.inr rfl) (by decide)) (qss_cons (qs_set (i := 4) nd rfl (by first | exact Or.inl rfl | exact Or.inr rfl) (by decide) (qe_op2 op_mod mod_ok (qb_of (qe_callTy call_int1 intc_ok rfl t.b_int (by decide +kernel) (qab_cons (qb_of (qe_op2 op_addU add_ok (qb_of (qe_op2 op_mul mul_ok (qb_peek (i := 4) rfl (by first | exact Or.inl rfl | exact Or.inr (Or.inl rfl) | exact Or.inr (Or.inr rfl))) (qb_of qe_int))) (qb_of (qe_op2 op_mul mul_ok (qb_of qe_int) (qb_peek (i := 5) rfl (by first | exact Or.inl rfl | exact Or.inr (Or.inl rfl) | exact Or.inr (Or.inr rfl))))))) qab_nil))) (qb_of qe_int)))
  (qss_one (qs_expr (qe_append (i := 3) rfl (by first | exact Or.inl rfl | exact Or.inr (Or.inl rfl) | exact Or.inr (Or.inr rfl)) (qe_op2 op_mod mod_ok (qb_of (qe_op2 op_fdiv div_ok (qb_peek (i := 4) rfl (by first | exact Or.inl rfl | exact Or.inr (Or.inl rfl) | exact Or.inr (Or.inr rfl))) (qb_of qe_int))) (qb_peek (i := 2) rfl (by first | exact Or.inl rfl | exact Or.inr (Or.inl rfl) | exact Or.inr (Or.inr rfl)))))))))
  (qss_one (qs_ret (qe_move (i := 3) rfl (by first | exact Or.inl rfl | exact Or.inr (Or.inl rfl) | exact Or.inr (Or.inr rfl)))))))))
abbrev N__law_block : List Str := ["_law_cell_here", "_law_many", "_law_number"]
theorem sc__law_block : FnScope N__law_block ["_law_cell_here", "_law_many"] (defScope st__law_block) := ⟨rfl, rfl, rfl, by decide +kernel, rfl, by decide +kernel, by decide +kernel⟩
theorem bn__law_block {fd : FuncData} (F : FunD K "_law_block" "_law_block" (defArgs st__law_block) (defBody st__law_block) (defScope st__law_block) [] [] (He.ga K "_law_block") fd) : Binds K fd ["_law_cell_here", "_law_many"] [] := F.bindsN fun _ _ _ _ _ _ us hl => match us, hl with | [_, _], _ => rfl
theorem ok__law_block (t : Txt K mg) {fd : FuncData} (F : FunD K "_law_block" "_law_block" (defArgs st__law_block) (defBody st__law_block) (defScope st__law_block) [] [] (He.ga K "_law_block") fd) : FnOk P w K mg base (L2.CX P w) 2 (He.ga K "_law_block") fd ["_law_cell_here", "_law_many"] (spV K (clT cs K) 2 [] m__law_block) := by
  obtain ⟨fd__law_draws, D__law_draws⟩ := t.d__law_draws
  have F__law_draws := ok__law_draws (P := P) (w := w) (base := base) t D__law_draws
  have K__law_draws := D__law_draws.kp
  have B__law_draws := bn__law_draws D__law_draws
  have nd : N__law_block.Nodup := sc__law_block.nd
  refine fn_okD (n := 3) F sc__law_block rfl (by decide) (by decide) fun cdv A outer s H E hr => ?_
  have hu := hu64 hr
  have hu5 := hu65 hr
  exact (qss_one (qs_ret (xqe_comp rfl nd (blkOk_by (N := N__law_block) (sc := defScope st__law_block) (own := [(("_law_number" : Str), 2)]) (by decide +kernel)) (qi_seq (qe_callF F__law_draws (hr.mono (by decide)) rfl t.g__law_draws K__law_draws B__law_draws (takes_of rfl rfl rfl rfl) (xqa_cons (qe_var (i := 0) rfl (by first | exact Or.inl rfl | exact Or.inr (Or.inl rfl) | exact Or.inr (Or.inr rfl))) (xqa_cons (qe_var (i := 1) rfl (by first | exact Or.inl rfl | exact Or.inr (Or.inl rfl) | exact Or.inr (Or.inr rfl))) (xqa_cons qe_int qa_nil))))) (fun _ _ _ _ _ => (qg_name (i := 2) nd rfl (by first | exact Or.inl rfl | exact Or.inr rfl) (by decide))) (fun _ _ _ _ _ => qts_nil) (fun _ _ _ _ _ => (qe_op2 op_mod mod_ok (qb_of (qe_callTy call_int1 intc_ok rfl t.b_int (by decide +kernel) (qab_cons (qb_peek (i := 2) rfl (by first | exact Or.inl rfl | exact Or.inr (Or.inl rfl) | exact Or.inr (Or.inr rfl))) qab_nil))) (qb_of qe_int))) (by decide) (by decide))))
abbrev N_Network_c_post : List Str := ["self", "sender", "to", "block"]
theorem sc_Network_c_post : FnScope N_Network_c_post ["self", "sender", "to", "block"] (defScope st_Network_c_post) := ⟨rfl, rfl, rfl, by decide +kernel, rfl, by decide +kernel, by decide +kernel⟩
theorem bn_Network_c_post {fd : FuncData} (F : FunD K "post" "Network.post" (defArgs st_Network_c_post) (defBody st_Network_c_post) (defScope st_Network_c_post) [] [] (He.ma K (He.ga K "Network") "post") fd) : Binds K fd ["self", "sender", "to", "block"] [] := F.bindsN fun _ _ _ _ _ _ us hl => match us, hl with | [_, _, _, _], _ => rfl
theorem ok_Network_c_post (t : Txt K mg) {fd : FuncData} (F : FunD K "post" "Network.post" (defArgs st_Network_c_post) (defBody st_Network_c_post) (defScope st_Network_c_post) [] [] (He.ma K (He.ga K "Network") "post") fd) : FnOk P w K mg base (L2.CX P w) 1 (He.ma K (He.ga K "Network") "post") fd ["self", "sender", "to", "block"] (spV K (clT cs K) 4 [0, 3] m_Network_c_post) := by
  have nd : N_Network_c_post.Nodup := sc_Network_c_post.nd
  refine fn_okD (n := 4) F sc_Network_c_post rfl (by decide) (by decide) fun cdv A outer s H E hr => ?_
  have hu := hu64 hr
  have hu5 := hu65 hr
  exact (qss_cons (qs_expr (qe_appP (qp_fld t.f__packets (qp_name (i := 0) rfl (by first | exact Or.inl rfl | exact Or.inr (Or.inl rfl) | exact Or.inr (Or.inr rfl)))) (qe_fz (qe_tup (xqa_cons (qe_var (i := 1) rfl (by first | exact Or.inl rfl | exact Or.inr (Or.inl rfl) | exact Or.inr (Or.inr rfl))) (xqa_cons (qe_var (i := 2) rfl (by first | exact Or.inl rfl | exact Or.inr (Or.inl rfl) | exact Or.inr (Or.inr rfl))) (xqa_cons (qe_callTy call_list_of listOf_ok rfl t.b_list (by decide +kernel) (qab_cons (qb_peek (i := 3) rfl (by first | exact Or.inl rfl | exact Or.inr (Or.inl rfl) | exact Or.inr (Or.inr rfl))) qab_nil)) qa_nil)))))))
  (qss_one (qs_expr (qe_appP (qp_fld t.f__damaged (qp_name (i := 0) rfl (by first | exact Or.inl rfl | exact Or.inr (Or.inl rfl) | exact Or.inr (Or.inr rfl)))) qe_bl))))
abbrev N_Network_c___len__ : List Str := ["self"]
theorem sc_Network_c___len__ : FnScope N_Network_c___len__ ["self"] (defScope st_Network_c___len__) := ⟨rfl, rfl, rfl, by decide +kernel, rfl, by decide +kernel, by decide +kernel⟩
theorem bn_Network_c___len__ {fd : FuncData} (F : FunD K "__len__" "Network.__len__" (defArgs st_Network_c___len__) (defBody st_Network_c___len__) (defScope st_Network_c___len__) [] [] (He.ma K (He.ga K "Network") "__len__") fd) : Binds K fd ["self"] [] := F.bindsN fun _ _ _ _ _ _ us hl => match us, hl with | [_], _ => rfl
theorem ok_Network_c___len__ (t : Txt K mg) {fd : FuncData} (F : FunD K "__len__" "Network.__len__" (defArgs st_Network_c___len__) (defBody st_Network_c___len__) (defScope st_Network_c___len__) [] [] (He.ma K (He.ga K "Network") "__len__") fd) : FnOk P w K mg base (L2.CX P w) 1 (He.ma K (He.ga K "Network") "__len__") fd ["self"] (spV K (clT cs K) 1 [] m_Network_c___len__) := by
  have nd : N_Network_c___len__.Nodup := sc_Network_c___len__.nd
  refine fn_okD (n := 1) F sc_Network_c___len__ rfl (by decide) (by decide) fun cdv A outer s H E hr => ?_
  have hu := hu64 hr
  have hu5 := hu65 hr
  exact (qss_one (qs_ret (qe_callB call_len len_ok rfl t.b_len (by decide +kernel) (qab_cons (qb_fld t.f__packets (qb_peek (i := 0) rfl (by first | exact Or.inl rfl | exact Or.inr (Or.inl rfl) | exact Or.inr (Or.inr rfl)))) qab_nil))))
abbrev N_Network_c___iter__ : List Str := ["self"]
theorem sc_Network_c___iter__ : FnScope N_Network_c___iter__ ["self"] (defScope st_Network_c___iter__) := ⟨rfl, rfl, rfl, by decide +kernel, rfl, by decide +kernel, by decide +kernel⟩
theorem bn_Network_c___iter__ {fd : FuncData} (F : FunD K "__iter__" "Network.__iter__" (defArgs st_Network_c___iter__) (defBody st_Network_c___iter__) (defScope st_Network_c___iter__) [] [] (He.ma K (He.ga K "Network") "__iter__") fd) : Binds K fd ["self"] [] := F.bindsN fun _ _ _ _ _ _ us hl => match us, hl with | [_], _ => rfl
theorem ok_Network_c___iter__ (t : Txt K mg) {fd : FuncData} (F : FunD K "__iter__" "Network.__iter__" (defArgs st_Network_c___iter__) (defBody st_Network_c___iter__) (defScope st_Network_c___iter__) [] [] (He.ma K (He.ga K "Network") "__iter__") fd) : ItL P w K mg base (He.ga K "Network") (He.ma K (He.ga K "Network") "__iter__") (Str.ofString "_packets") 0 :=
  itL_of F (bn_Network_c___iter__ F) sc_Network_c___iter__ rfl (by first | exact Or.inl rfl | exact Or.inr (Or.inl rfl) | exact Or.inr (Or.inr rfl)) rfl t.me_Network_c___iter__ t.cl_Network (t.f__packets "Network" (by decide) _ (clT_in (by decide))).2 t.b_iter
abbrev N_Network_c__check : List Str := ["self", "index"]
theorem sc_Network_c__check : FnScope N_Network_c__check ["self", "index"] (defScope st_Network_c__check) := ⟨rfl, rfl, rfl, by decide +kernel, rfl, by decide +kernel, by decide +kernel⟩
theorem bn_Network_c__check {fd : FuncData} (F : FunD K "_check" "Network._check" (defArgs st_Network_c__check) (defBody st_Network_c__check) (defScope st_Network_c__check) [] [] (He.ma K (He.ga K "Network") "_check") fd) : Binds K fd ["self", "index"] [] := F.bindsN fun _ _ _ _ _ _ us hl => match us, hl with | [_, _], _ => rfl
theorem ok_Network_c__check (t : Txt K mg) {fd : FuncData} (F : FunD K "_check" "Network._check" (defArgs st_Network_c__check) (defBody st_Network_c__check) (defScope st_Network_c__check) [] [] (He.ma K (He.ga K "Network") "_check") fd) : FnOk P w K mg base (L2.CX P w) 1 (He.ma K (He.ga K "Network") "_check") fd ["self", "index"] (spV K (clT cs K) 2 [] m_Network_c__check) := by
  have nd : N_Network_c__check.Nodup := sc_Network_c__check.nd
  refine fn_okD (n := 2) F sc_Network_c__check rfl (by decide) (by decide) fun cdv A outer s H E hr => ?_
  have hu := hu64 hr
  have hu5 := hu65 hr
  exact (qss_one (qs_if (QW.qt (xqw_or (qt_cmp op_ltU lt_ok (qb_peek (i := 1) rfl (by first | exact Or.inl rfl | exact Or.inr (Or.inl rfl) | exact Or.inr (Or.inr rfl))) (qb_of qe_int) (nomark _)) (qw_one_or (qt_cmp op_geU ge_ok (qb_peek (i := 1) rfl (by first | exact Or.inl rfl | exact Or.inr (Or.inl rfl) | exact Or.inr (Or.inr rfl))) (qb_of (qe_callB call_len len_ok rfl t.b_len (by decide +kernel) (qab_cons (qb_fld t.f__packets (qb_peek (i := 0) rfl (by first | exact Or.inl rfl | exact Or.inr (Or.inl rfl) | exact Or.inr (Or.inr rfl)))) qab_nil))) (nomark _))))) (qss_one (qs_raiseOwn (c := "BadArgument") rfl (takes_of rfl rfl rfl rfl) (by decide) t.x_BadArgument t.g_BadArgument rfl)) qss_nil))
abbrev N_Network_c_packet : List Str := ["self", "index", "sender", "to", "block"]
theorem sc_Network_c_packet : FnScope N_Network_c_packet ["self", "index"] (defScope st_Network_c_packet) := ⟨rfl, rfl, rfl, by decide +kernel, rfl, by decide +kernel, by decide +kernel⟩
theorem bn_Network_c_packet {fd : FuncData} (F : FunD K "packet" "Network.packet" (defArgs st_Network_c_packet) (defBody st_Network_c_packet) (defScope st_Network_c_packet) [] [] (He.ma K (He.ga K "Network") "packet") fd) : Binds K fd ["self", "index"] [] := F.bindsN fun _ _ _ _ _ _ us hl => match us, hl with | [_, _], _ => rfl
theorem ok_Network_c_packet (t : Txt K mg) {fd : FuncData} (F : FunD K "packet" "Network.packet" (defArgs st_Network_c_packet) (defBody st_Network_c_packet) (defScope st_Network_c_packet) [] [] (He.ma K (He.ga K "Network") "packet") fd) : FnOk P w K mg base (L2.CX P w) 2 (He.ma K (He.ga K "Network") "packet") fd ["self", "index"] (spV K (clT cs K) 2 [0] m_Network_c_packet) := by
  obtain ⟨fd_Network_c__check, D_Network_c__check⟩ := t.d_Network_c__check
  have F_Network_c__check := ok_Network_c__check (P := P) (w := w) (base := base) t D_Network_c__check
  have K_Network_c__check := D_Network_c__check.kp
  have B_Network_c__check := bn_Network_c__check D_Network_c__check
  have nd : N_Network_c_packet.Nodup := sc_Network_c_packet.nd
  refine fn_okD (n := 5) F sc_Network_c_packet rfl (by decide) (by decide) fun cdv A outer s H E hr => ?_
  have hu := hu64 hr
  have hu5 := hu65 hr
  exact (qss_cons (qs_expr (qe_methB (clT_in (by decide)) t.cl_Network t.me_Network_c__check F_Network_c__check (hr.mono (by decide)) B_Network_c__check (takes_of rfl rfl rfl rfl) (qb_peek (i := 0) rfl (by first | exact Or.inl rfl | exact Or.inr (Or.inl rfl) | exact Or.inr (Or.inr rfl))) (qab_cons (qb_peek (i := 1) rfl (by first | exact Or.inl rfl | exact Or.inr (Or.inl rfl) | exact Or.inr (Or.inr rfl))) qab_nil)))
  (qss_cons (qs_asg (qe_sh (qb_ix (qb_fld t.f__packets (qb_peek (i := 0) rfl (by first | exact Or.inl rfl | exact Or.inr (Or.inl rfl) | exact Or.inr (Or.inr rfl)))) (qb_peek (i := 1) rfl (by first | exact Or.inl rfl | exact Or.inr (Or.inl rfl) | exact Or.inr (Or.inr rfl))))) (qg_tup rfl (qgs_cons (qg_name (i := 2) nd rfl (by first | exact Or.inl rfl | exact Or.inr rfl) (by decide)) (qgs_cons (qg_name (i := 3) nd rfl (by first | exact Or.inl rfl | exact Or.inr rfl) (by decide)) (qgs_cons (qg_name (i := 4) nd rfl (by first | exact Or.inl rfl | exact Or.inr rfl) (by decide)) qgs_nil)))))
  (qss_one (qs_ret (qe_tup (xqa_cons (qe_var (i := 2) rfl (by first | exact Or.inl rfl | exact Or.inr (Or.inl rfl) | exact Or.inr (Or.inr rfl))) (xqa_cons (qe_var (i := 3) rfl (by first | exact Or.inl rfl | exact Or.inr (Or.inl rfl) | exact Or.inr (Or.inr rfl))) (xqa_cons (qe_callTy call_list_of listOf_ok rfl t.b_list (by decide +kernel) (qab_cons (qb_peek (i := 4) rfl (by first | exact Or.inl rfl | exact Or.inr (Or.inl rfl) | exact Or.inr (Or.inr rfl))) qab_nil)) qa_nil))))))))
abbrev N_Network_c_is_damaged : List Str := ["self", "index"]
theorem sc_Network_c_is_damaged : FnScope N_Network_c_is_damaged ["self", "index"] (defScope st_Network_c_is_damaged) := ⟨rfl, rfl, rfl, by decide +kernel, rfl, by decide +kernel, by decide +kernel⟩
theorem bn_Network_c_is_damaged {fd : FuncData} (F : FunD K "is_damaged" "Network.is_damaged" (defArgs st_Network_c_is_damaged) (defBody st_Network_c_is_damaged) (defScope st_Network_c_is_damaged) [] [] (He.ma K (He.ga K "Network") "is_damaged") fd) : Binds K fd ["self", "index"] [] := F.bindsN fun _ _ _ _ _ _ us hl => match us, hl with | [_, _], _ => rfl
theorem ok_Network_c_is_damaged (t : Txt K mg) {fd : FuncData} (F : FunD K "is_damaged" "Network.is_damaged" (defArgs st_Network_c_is_damaged) (defBody st_Network_c_is_damaged) (defScope st_Network_c_is_damaged) [] [] (He.ma K (He.ga K "Network") "is_damaged") fd) : FnOk P w K mg base (L2.CX P w) 2 (He.ma K (He.ga K "Network") "is_damaged") fd ["self", "index"] (spV K (clT cs K) 2 [0] m_Network_c_is_damaged) := by
  obtain ⟨fd_Network_c__check, D_Network_c__check⟩ := t.d_Network_c__check
  have F_Network_c__check := ok_Network_c__check (P := P) (w := w) (base := base) t D_Network_c__check
  have K_Network_c__check := D_Network_c__check.kp
  have B_Network_c__check := bn_Network_c__check D_Network_c__check
  have nd : N_Network_c_is_damaged.Nodup := sc_Network_c_is_damaged.nd
  refine fn_okD (n := 2) F sc_Network_c_is_damaged rfl (by decide) (by decide) fun cdv A outer s H E hr => ?_
  have hu := hu64 hr
  have hu5 := hu65 hr
  exact (qss_cons (qs_expr (qe_methB (clT_in (by decide)) t.cl_Network t.me_Network_c__check F_Network_c__check (hr.mono (by decide)) B_Network_c__check (takes_of rfl rfl rfl rfl) (qb_peek (i := 0) rfl (by first | exact Or.inl rfl | exact Or.inr (Or.inl rfl) | exact Or.inr (Or.inr rfl))) (qab_cons (qb_peek (i := 1) rfl (by first | exact Or.inl rfl | exact Or.inr (Or.inl rfl) | exact Or.inr (Or.inr rfl))) qab_nil)))
  (qss_one (qs_ret (qe_sh (qb_ix (qb_fld t.f__damaged (qb_peek (i := 0) rfl (by first | exact Or.inl rfl | exact Or.inr (Or.inl rfl) | exact Or.inr (Or.inr rfl)))) (qb_peek (i := 1) rfl (by first | exact Or.inl rfl | exact Or.inr (Or.inl rfl) | exact Or.inr (Or.inr rfl))))))))
abbrev N_Network_c_take : List Str := ["self", "index", "packet"]
theorem sc_Network_c_take : FnScope N_Network_c_take ["self", "index"] (defScope st_Network_c_take) := ⟨rfl, rfl, rfl, by decide +kernel, rfl, by decide +kernel, by decide +kernel⟩
theorem bn_Network_c_take {fd : FuncData} (F : FunD K "take" "Network.take" (defArgs st_Network_c_take) (defBody st_Network_c_take) (defScope st_Network_c_take) [] [] (He.ma K (He.ga K "Network") "take") fd) : Binds K fd ["self", "index"] [] := F.bindsN fun _ _ _ _ _ _ us hl => match us, hl with | [_, _], _ => rfl
theorem ok_Network_c_take (t : Txt K mg) {fd : FuncData} (F : FunD K "take" "Network.take" (defArgs st_Network_c_take) (defBody st_Network_c_take) (defScope st_Network_c_take) [] [] (He.ma K (He.ga K "Network") "take") fd) : FnOk P w K mg base (L2.CX P w) 2 (He.ma K (He.ga K "Network") "take") fd ["self", "index"] (spV K (clT cs K) 2 [0] m_Network_c_take) := by
  obtain ⟨fd_Network_c__check, D_Network_c__check⟩ := t.d_Network_c__check
  have F_Network_c__check := ok_Network_c__check (P := P) (w := w) (base := base) t D_Network_c__check
  have K_Network_c__check := D_Network_c__check.kp
  have B_Network_c__check := bn_Network_c__check D_Network_c__check
  have nd : N_Network_c_take.Nodup := sc_Network_c_take.nd
  refine fn_okD (n := 3) F sc_Network_c_take rfl (by decide) (by decide) fun cdv A outer s H E hr => ?_
  have hu := hu64 hr
  have hu5 := hu65 hr
  exact (qss_cons (qs_expr (qe_methB (clT_in (by decide)) t.cl_Network t.me_Network_c__check F_Network_c__check (hr.mono (by decide)) B_Network_c__check (takes_of rfl rfl rfl rfl) (qb_peek (i := 0) rfl (by first | exact Or.inl rfl | exact Or.inr (Or.inl rfl) | exact Or.inr (Or.inr rfl))) (qab_cons (qb_peek (i := 1) rfl (by first | exact Or.inl rfl | exact Or.inr (Or.inl rfl) | exact Or.inr (Or.inr rfl))) qab_nil)))
  (qss_cons (qs_set (i := 2) nd rfl (by first | exact Or.inl rfl | exact Or.inr rfl) (by decide) (qe_sh (qb_ix (qb_fld t.f__packets (qb_peek (i := 0) rfl (by first | exact Or.inl rfl | exact Or.inr (Or.inl rfl) | exact Or.inr (Or.inr rfl)))) (qb_peek (i := 1) rfl (by first | exact Or.inl rfl | exact Or.inr (Or.inl rfl) | exact Or.inr (Or.inr rfl))))))
  (qss_cons (qs_setFld t.f__packets (i := 0) rfl (by first | exact Or.inl rfl | exact Or.inr (Or.inl rfl) | exact Or.inr (Or.inr rfl)) (qe_op2 op_addU add_ok (qb_of (qe_sl (qb_fld t.f__packets (qb_peek (i := 0) rfl (by first | exact Or.inl rfl | exact Or.inr (Or.inl rfl) | exact Or.inr (Or.inr rfl)))) qo_none (qo_some (qb_peek (i := 1) rfl (by first | exact Or.inl rfl | exact Or.inr (Or.inl rfl) | exact Or.inr (Or.inr rfl)))))) (qb_of (qe_sl (qb_fld t.f__packets (qb_peek (i := 0) rfl (by first | exact Or.inl rfl | exact Or.inr (Or.inl rfl) | exact Or.inr (Or.inr rfl)))) (qo_some (qb_of (qe_op2 op_addU add_ok (qb_peek (i := 1) rfl (by first | exact Or.inl rfl | exact Or.inr (Or.inl rfl) | exact Or.inr (Or.inr rfl))) (qb_of qe_int)))) qo_none))))
  (qss_cons (qs_setFld t.f__damaged (i := 0) rfl (by first | exact Or.inl rfl | exact Or.inr (Or.inl rfl) | exact Or.inr (Or.inr rfl)) (qe_op2 op_addU add_ok (qb_of (qe_sl (qb_fld t.f__damaged (qb_peek (i := 0) rfl (by first | exact Or.inl rfl | exact Or.inr (Or.inl rfl) | exact Or.inr (Or.inr rfl)))) qo_none (qo_some (qb_peek (i := 1) rfl (by first | exact Or.inl rfl | exact Or.inr (Or.inl rfl) | exact Or.inr (Or.inr rfl)))))) (qb_of (qe_sl (qb_fld t.f__damaged (qb_peek (i := 0) rfl (by first | exact Or.inl rfl | exact Or.inr (Or.inl rfl) | exact Or.inr (Or.inr rfl)))) (qo_some (qb_of (qe_op2 op_addU add_ok (qb_peek (i := 1) rfl (by first | exact Or.inl rfl | exact Or.inr (Or.inl rfl) | exact Or.inr (Or.inr rfl))) (qb_of qe_int)))) qo_none))))
  (qss_one (qs_ret (qe_move (i := 2) rfl (by first | exact Or.inl rfl | exact Or.inr (Or.inl rfl) | exact Or.inr (Or.inr rfl)))))))))
abbrev N_Network_c_lose : List Str := ["self", "index"]
theorem sc_Network_c_lose : FnScope N_Network_c_lose ["self", "index"] (defScope st_Network_c_lose) := ⟨rfl, rfl, rfl, by decide +kernel, rfl, by decide +kernel, by decide +kernel⟩
theorem bn_Network_c_lose {fd : FuncData} (F : FunD K "lose" "Network.lose" (defArgs st_Network_c_lose) (defBody st_Network_c_lose) (defScope st_Network_c_lose) [] [] (He.ma K (He.ga K "Network") "lose") fd) : Binds K fd ["self", "index"] [] := F.bindsN fun _ _ _ _ _ _ us hl => match us, hl with | [_, _], _ => rfl
theorem ok_Network_c_lose (t : Txt K mg) {fd : FuncData} (F : FunD K "lose" "Network.lose" (defArgs st_Network_c_lose) (defBody st_Network_c_lose) (defScope st_Network_c_lose) [] [] (He.ma K (He.ga K "Network") "lose") fd) : FnOk P w K mg base (L2.CX P w) 3 (He.ma K (He.ga K "Network") "lose") fd ["self", "index"] (spV K (clT cs K) 2 [0] m_Network_c_lose) := by
  obtain ⟨fd_Network_c_take, D_Network_c_take⟩ := t.d_Network_c_take
  have F_Network_c_take := ok_Network_c_take (P := P) (w := w) (base := base) t D_Network_c_take
  have K_Network_c_take := D_Network_c_take.kp
  have B_Network_c_take := bn_Network_c_take D_Network_c_take
  have nd : N_Network_c_lose.Nodup := sc_Network_c_lose.nd
  refine fn_okD (n := 2) F sc_Network_c_lose rfl (by decide) (by decide) fun cdv A outer s H E hr => ?_
  have hu := hu64 hr
  have hu5 := hu65 hr
  exact (qss_one (qs_expr (qe_meth (clT_in (by decide)) t.cl_Network t.me_Network_c_take F_Network_c_take (hr.mono (by decide)) B_Network_c_take (takes_of rfl rfl rfl rfl) rfl (i := 0) rfl (by first | exact Or.inl rfl | exact Or.inr (Or.inl rfl) | exact Or.inr (Or.inr rfl)) (xqai_cons (qe_var (i := 1) rfl (by first | exact Or.inl rfl | exact Or.inr (Or.inl rfl) | exact Or.inr (Or.inr rfl))) qai_nil))))
abbrev N_Network_c_double : List Str := ["self", "index", "sender", "to", "block"]
theorem sc_Network_c_double : FnScope N_Network_c_double ["self", "index"] (defScope st_Network_c_double) := ⟨rfl, rfl, rfl, by decide +kernel, rfl, by decide +kernel, by decide +kernel⟩
theorem bn_Network_c_double {fd : FuncData} (F : FunD K "double" "Network.double" (defArgs st_Network_c_double) (defBody st_Network_c_double) (defScope st_Network_c_double) [] [] (He.ma K (He.ga K "Network") "double") fd) : Binds K fd ["self", "index"] [] := F.bindsN fun _ _ _ _ _ _ us hl => match us, hl with | [_, _], _ => rfl
theorem ok_Network_c_double (t : Txt K mg) {fd : FuncData} (F : FunD K "double" "Network.double" (defArgs st_Network_c_double) (defBody st_Network_c_double) (defScope st_Network_c_double) [] [] (He.ma K (He.ga K "Network") "double") fd) : FnOk P w K mg base (L2.CX P w) 3 (He.ma K (He.ga K "Network") "double") fd ["self", "index"] (spV K (clT cs K) 2 [0] m_Network_c_double) := by
  obtain ⟨fd_Network_c_packet, D_Network_c_packet⟩ := t.d_Network_c_packet
  have F_Network_c_packet := ok_Network_c_packet (P := P) (w := w) (base := base) t D_Network_c_packet
  have K_Network_c_packet := D_Network_c_packet.kp
  have B_Network_c_packet := bn_Network_c_packet D_Network_c_packet
  have nd : N_Network_c_double.Nodup := sc_Network_c_double.nd
  refine fn_okD (n := 5) F sc_Network_c_double rfl (by decide) (by decide) fun cdv A outer s H E hr => ?_
  have hu := hu64 hr
  have hu5 := hu65 hr
  exact (qss_cons (qs_asg (qe_meth (clT_in (by decide)) t.cl_Network t.me_Network_c_packet F_Network_c_packet (hr.mono (by decide)) B_Network_c_packet (takes_of rfl rfl rfl rfl) rfl (i := 0) rfl (by first | exact Or.inl rfl | exact Or.inr (Or.inl rfl) | exact Or.inr (Or.inr rfl)) (xqai_cons (qe_var (i := 1) rfl (by first | exact Or.inl rfl | exact Or.inr (Or.inl rfl) | exact Or.inr (Or.inr rfl))) qai_nil)) (qg_tup rfl (qgs_cons (qg_name (i := 2) nd rfl (by first | exact Or.inl rfl | exact Or.inr rfl) (by decide)) (qgs_cons (qg_name (i := 3) nd rfl (by first | exact Or.inl rfl | exact Or.inr rfl) (by decide)) (qgs_cons (qg_name (i := 4) nd rfl (by first | exact Or.inl rfl | exact Or.inr rfl) (by decide)) qgs_nil)))))
  (qss_cons (qs_expr (qe_appP (qp_fld t.f__packets (qp_name (i := 0) rfl (by first | exact Or.inl rfl | exact Or.inr (Or.inl rfl) | exact Or.inr (Or.inr rfl)))) (qe_fz (qe_tup (xqa_cons (qe_var (i := 2) rfl (by first | exact Or.inl rfl | exact Or.inr (Or.inl rfl) | exact Or.inr (Or.inr rfl))) (xqa_cons (qe_var (i := 3) rfl (by first | exact Or.inl rfl | exact Or.inr (Or.inl rfl) | exact Or.inr (Or.inr rfl))) (xqa_cons (qe_var (i := 4) rfl (by first | exact Or.inl rfl | exact Or.inr (Or.inl rfl) | exact Or.inr (Or.inr rfl))) qa_nil)))))))
  (qss_one (qs_expr (qe_appP (qp_fld t.f__damaged (qp_name (i := 0) rfl (by first | exact Or.inl rfl | exact Or.inr (Or.inl rfl) | exact Or.inr (Or.inr rfl)))) (qe_sh (qb_ix (qb_fld t.f__damaged (qb_peek (i := 0) rfl (by first | exact Or.inl rfl | exact Or.inr (Or.inl rfl) | exact Or.inr (Or.inr rfl)))) (qb_peek (i := 1) rfl (by first | exact Or.inl rfl | exact Or.inr (Or.inl rfl) | exact Or.inr (Or.inr rfl))))))))))
abbrev N_Network_c_damage : List Str := ["self", "index", "at", "add", "sender", "to", "block"]
theorem sc_Network_c_damage : FnScope N_Network_c_damage ["self", "index", "at", "add"] (defScope st_Network_c_damage) := ⟨rfl, rfl, rfl, by decide +kernel, rfl, by decide +kernel, by decide +kernel⟩
theorem bn_Network_c_damage {fd : FuncData} (F : FunD K "damage" "Network.damage" (defArgs st_Network_c_damage) (defBody st_Network_c_damage) (defScope st_Network_c_damage) [] [("add", .int 128)] (He.ma K (He.ga K "Network") "damage") fd) : KBn K fd ["self", "index", "at", "add"] 2 ["at", "add"] (fun us ws => us ++ ws) (fun vs zs => vs ++ zs) := FunD_kbn0 F 2 ["at", "add"] fun _ _ _ _ _ _ us ws h1 h2 => match us, ws, h1, h2 with | [_, _], [_, _], _, _ => rfl
theorem ok_Network_c_damage (t : Txt K mg) {fd : FuncData} (F : FunD K "damage" "Network.damage" (defArgs st_Network_c_damage) (defBody st_Network_c_damage) (defScope st_Network_c_damage) [] [("add", .int 128)] (He.ma K (He.ga K "Network") "damage") fd) : FnOk P w K mg base (L2.CX P w) 3 (He.ma K (He.ga K "Network") "damage") fd ["self", "index", "at", "add"] (spV K (clT cs K) 4 [0] m_Network_c_damage) := by
  obtain ⟨fd_Network_c__check, D_Network_c__check⟩ := t.d_Network_c__check
  have F_Network_c__check := ok_Network_c__check (P := P) (w := w) (base := base) t D_Network_c__check
  have K_Network_c__check := D_Network_c__check.kp
  have B_Network_c__check := bn_Network_c__check D_Network_c__check
  obtain ⟨fd_Network_c_packet, D_Network_c_packet⟩ := t.d_Network_c_packet
  have F_Network_c_packet := ok_Network_c_packet (P := P) (w := w) (base := base) t D_Network_c_packet
  have K_Network_c_packet := D_Network_c_packet.kp
  have B_Network_c_packet := bn_Network_c_packet D_Network_c_packet
  have nd : N_Network_c_damage.Nodup := sc_Network_c_damage.nd
  refine fn_okD (n := 7) F sc_Network_c_damage rfl (by decide) (by decide) fun cdv A outer s H E hr => ?_
  have hu := hu64 hr
  have hu5 := hu65 hr
  exact (qss_cons (qs_expr (qe_methB (clT_in (by decide)) t.cl_Network t.me_Network_c__check F_Network_c__check (hr.mono (by decide)) B_Network_c__check (takes_of rfl rfl rfl rfl) (qb_peek (i := 0) rfl (by first | exact Or.inl rfl | exact Or.inr (Or.inl rfl) | exact Or.inr (Or.inr rfl))) (qab_cons (qb_peek (i := 1) rfl (by first | exact Or.inl rfl | exact Or.inr (Or.inl rfl) | exact Or.inr (Or.inr rfl))) qab_nil)))
  (qss_cons (qs_asg (qe_meth (clT_in (by decide)) t.cl_Network t.me_Network_c_packet F_Network_c_packet (hr.mono (by decide)) B_Network_c_packet (takes_of rfl rfl rfl rfl) rfl (i := 0) rfl (by first | exact Or.inl rfl | exact Or.inr (Or.inl rfl) | exact Or.inr (Or.inr rfl)) (xqai_cons (qe_var (i := 1) rfl (by first | exact Or.inl rfl | exact Or.inr (Or.inl rfl) | exact Or.inr (Or.inr rfl))) qai_nil)) (qg_tup rfl (qgs_cons (qg_name (i := 4) nd rfl (by first | exact Or.inl rfl | exact Or.inr rfl) (by decide)) (qgs_cons (qg_name (i := 5) nd rfl (by first | exact Or.inl rfl | exact Or.inr rfl) (by decide)) (qgs_cons (qg_name (i := 6) nd rfl (by first | exact Or.inl rfl | exact Or.inr rfl) (by decide)) qgs_nil)))))
  (qss_cons (qs_if (QW.qt (xqw_or (qt_cmp op_ltU lt_ok (qb_peek (i := 2) rfl (by first | exact Or.inl rfl | exact Or.inr (Or.inl rfl) | exact Or.inr (Or.inr rfl))) (qb_of qe_int) (nomark _)) (xqw_or (qt_cmp op_geU ge_ok (qb_peek (i := 2) rfl (by first | exact Or.inl rfl | exact Or.inr (Or.inl rfl) | exact Or.inr (Or.inr rfl))) (qb_of (qe_callB call_len len_ok rfl t.b_len (by decide +kernel) (qab_cons (qb_peek (i := 6) rfl (by first | exact Or.inl rfl | exact Or.inr (Or.inl rfl) | exact Or.inr (Or.inr rfl))) qab_nil))) (nomark _)) (xqw_or (qt_cmp op_ltU lt_ok (qb_peek (i := 3) rfl (by first | exact Or.inl rfl | exact Or.inr (Or.inl rfl) | exact Or.inr (Or.inr rfl))) (qb_of qe_int) (nomark _)) (qw_one_or (qt_cmp op_gtU gt_ok (qb_peek (i := 3) rfl (by first | exact Or.inl rfl | exact Or.inr (Or.inl rfl) | exact Or.inr (Or.inr rfl))) (qb_of qe_int) (nomark _))))))) (qss_one (qs_raiseOwn (c := "BadArgument") rfl (takes_of rfl rfl rfl rfl) (by decide) t.x_BadArgument t.g_BadArgument rfl)) qss_nil)
  (qss_cons (qs_if (qt_of (qb_ix (qb_fld t.f__damaged (qb_peek (i := 0) rfl (by first | exact Or.inl rfl | exact Or.inr (Or.inl rfl) | exact Or.inr (Or.inr rfl)))) (qb_peek (i := 1) rfl (by first | exact Or.inl rfl | exact Or.inr (Or.inl rfl) | exact Or.inr (Or.inr rfl))))) (qss_one (qs_raiseOwn (c := "Refused") rfl (takes_of rfl rfl rfl rfl) (by decide) t.x_Refused t.g_Refused rfl)) qss_nil)
  (qss_cons (qs_setIx (i := 6) rfl (by first | exact Or.inl rfl | exact Or.inr (Or.inl rfl) | exact Or.inr (Or.inr rfl)) (qe_op2 op_mod mod_ok (qb_of (qe_op2 op_addU add_ok (qb_ix (qb_peek (i := 6) rfl (by first | exact Or.inl rfl | exact Or.inr (Or.inl rfl) | exact Or.inr (Or.inr rfl))) (qb_peek (i := 2) rfl (by first | exact Or.inl rfl | exact Or.inr (Or.inl rfl) | exact Or.inr (Or.inr rfl)))) (qb_peek (i := 3) rfl (by first | exact Or.inl rfl | exact Or.inr (Or.inl rfl) | exact Or.inr (Or.inr rfl))))) (qb_of qe_int)) (qb_peek (i := 2) rfl (by first | exact Or.inl rfl | exact Or.inr (Or.inl rfl) | exact Or.inr (Or.inr rfl))))
  (qss_cons (qs_lputP (qp_fld t.f__packets (qp_name (i := 0) rfl (by first | exact Or.inl rfl | exact Or.inr (Or.inl rfl) | exact Or.inr (Or.inr rfl)))) (qe_tup (xqa_cons (qe_var (i := 4) rfl (by first | exact Or.inl rfl | exact Or.inr (Or.inl rfl) | exact Or.inr (Or.inr rfl))) (xqa_cons (qe_var (i := 5) rfl (by first | exact Or.inl rfl | exact Or.inr (Or.inl rfl) | exact Or.inr (Or.inr rfl))) (xqa_cons (qe_var (i := 6) rfl (by first | exact Or.inl rfl | exact Or.inr (Or.inl rfl) | exact Or.inr (Or.inr rfl))) qa_nil)))) (qb_peek (i := 1) rfl (by first | exact Or.inl rfl | exact Or.inr (Or.inl rfl) | exact Or.inr (Or.inr rfl))))
  (qss_one (qs_lputP (qp_fld t.f__damaged (qp_name (i := 0) rfl (by first | exact Or.inl rfl | exact Or.inr (Or.inl rfl) | exact Or.inr (Or.inr rfl)))) qe_bl (qb_peek (i := 1) rfl (by first | exact Or.inl rfl | exact Or.inr (Or.inl rfl) | exact Or.inr (Or.inr rfl)))))))))))
abbrev N__law_try : List Str := ["_law_network", "_law_kind", "_law_index", "_law_at", "_law_step", "e"]
theorem sc__law_try : FnScope N__law_try ["_law_network", "_law_kind", "_law_index", "_law_at", "_law_step"] (defScope st__law_try) := ⟨rfl, rfl, rfl, by decide +kernel, rfl, by decide +kernel, by decide +kernel⟩
theorem bn__law_try {fd : FuncData} (F : FunD K "_law_try" "_law_try" (defArgs st__law_try) (defBody st__law_try) (defScope st__law_try) [] [] (He.ga K "_law_try") fd) : Binds K fd ["_law_network", "_law_kind", "_law_index", "_law_at", "_law_step"] [] := F.bindsN fun _ _ _ _ _ _ us hl => match us, hl with | [_, _, _, _, _], _ => rfl
theorem ok__law_try (t : Txt K mg) {fd : FuncData} (F : FunD K "_law_try" "_law_try" (defArgs st__law_try) (defBody st__law_try) (defScope st__law_try) [] [] (He.ga K "_law_try") fd) : FnOk P w K mg base (L2.CX P w) 4 (He.ga K "_law_try") fd ["_law_network", "_law_kind", "_law_index", "_law_at", "_law_step"] (spV K (clT cs K) 5 [0] m__law_try) := by
  obtain ⟨fd_Network_c_take, D_Network_c_take⟩ := t.d_Network_c_take
  have F_Network_c_take := ok_Network_c_take (P := P) (w := w) (base := base) t D_Network_c_take
  have K_Network_c_take := D_Network_c_take.kp
  have B_Network_c_take := bn_Network_c_take D_Network_c_take
  obtain ⟨fd_Network_c_lose, D_Network_c_lose⟩ := t.d_Network_c_lose
  have F_Network_c_lose := ok_Network_c_lose (P := P) (w := w) (base := base) t D_Network_c_lose
  have K_Network_c_lose := D_Network_c_lose.kp
  have B_Network_c_lose := bn_Network_c_lose D_Network_c_lose
  obtain ⟨fd_Network_c_double, D_Network_c_double⟩ := t.d_Network_c_double
  have F_Network_c_double := ok_Network_c_double (P := P) (w := w) (base := base) t D_Network_c_double
  have K_Network_c_double := D_Network_c_double.kp
  have B_Network_c_double := bn_Network_c_double D_Network_c_double
  obtain ⟨fd_Network_c_damage, D_Network_c_damage⟩ := t.d_Network_c_damage
  have F_Network_c_damage := ok_Network_c_damage (P := P) (w := w) (base := base) t D_Network_c_damage
  have K_Network_c_damage := D_Network_c_damage.kp
  have B_Network_c_damage := bn_Network_c_damage D_Network_c_damage
  obtain ⟨fd_Network_c_packet, D_Network_c_packet⟩ := t.d_Network_c_packet
  have F_Network_c_packet := ok_Network_c_packet (P := P) (w := w) (base := base) t D_Network_c_packet
  have K_Network_c_packet := D_Network_c_packet.kp
  have B_Network_c_packet := bn_Network_c_packet D_Network_c_packet
  obtain ⟨fd_Network_c_is_damaged, D_Network_c_is_damaged⟩ := t.d_Network_c_is_damaged
  have F_Network_c_is_damaged := ok_Network_c_is_damaged (P := P) (w := w) (base := base) t D_Network_c_is_damaged
  have K_Network_c_is_damaged := D_Network_c_is_damaged.kp
  have B_Network_c_is_damaged := bn_Network_c_is_damaged D_Network_c_is_damaged
  have nd : N__law_try.Nodup := sc__law_try.nd
  refine fn_okD (n := 6) F sc__law_try rfl (by decide) (by decide) fun cdv A outer s H E hr => ?_
  have hu := hu64 hr
  have hu5 := hu65 hr
  exact (qss_cons (qs_tryAs (i := 5) rfl rfl nd rfl rfl (by decide) ⟨rfl, by decide, .inl t.g_MeridianError⟩ (takes_of rfl rfl rfl rfl) (catB_ok t.c_MeridianError) (fun W pn xe tk po => (qss_cons (qs_if (qt_cmp (op_eqD hu) eq_ok (qb_peek (i := 1) rfl (by first | exact Or.inl rfl | exact Or.inr (Or.inl rfl) | exact Or.inr (Or.inr rfl))) (qb_of qe_int) (nomark _)) (qss_one (qs_ret (qe_meth (clT_in (by decide)) t.cl_Network t.me_Network_c_take F_Network_c_take (hr.mono (by decide)) B_Network_c_take tk rfl (i := 0) rfl (by first | exact Or.inl rfl | exact Or.inr (Or.inl rfl) | exact Or.inr (Or.inr rfl)) (xqai_cons (qe_var (i := 2) rfl (by first | exact Or.inl rfl | exact Or.inr (Or.inl rfl) | exact Or.inr (Or.inr rfl))) qai_nil)))) qss_nil)
  (qss_one (qs_if (qt_cmp (op_eqD hu) eq_ok (qb_peek (i := 1) rfl (by first | exact Or.inl rfl | exact Or.inr (Or.inl rfl) | exact Or.inr (Or.inr rfl))) (qb_of qe_int) (nomark _)) (qss_one (qs_expr (qe_meth (clT_in (by decide)) t.cl_Network t.me_Network_c_lose F_Network_c_lose (hr.mono (by decide)) B_Network_c_lose tk rfl (i := 0) rfl (by first | exact Or.inl rfl | exact Or.inr (Or.inl rfl) | exact Or.inr (Or.inr rfl)) (xqai_cons (qe_var (i := 2) rfl (by first | exact Or.inl rfl | exact Or.inr (Or.inl rfl) | exact Or.inr (Or.inr rfl))) qai_nil)))) (qss_one (qs_if (qt_cmp (op_eqD hu) eq_ok (qb_peek (i := 1) rfl (by first | exact Or.inl rfl | exact Or.inr (Or.inl rfl) | exact Or.inr (Or.inr rfl))) (qb_of qe_int) (nomark _)) (qss_one (qs_expr (qe_meth (clT_in (by decide)) t.cl_Network t.me_Network_c_double F_Network_c_double (hr.mono (by decide)) B_Network_c_double tk rfl (i := 0) rfl (by first | exact Or.inl rfl | exact Or.inr (Or.inl rfl) | exact Or.inr (Or.inr rfl)) (xqai_cons (qe_var (i := 2) rfl (by first | exact Or.inl rfl | exact Or.inr (Or.inl rfl) | exact Or.inr (Or.inr rfl))) qai_nil)))) (qss_one (qs_if (qt_cmp (op_eqD hu) eq_ok (qb_peek (i := 1) rfl (by first | exact Or.inl rfl | exact Or.inr (Or.inl rfl) | exact Or.inr (Or.inr rfl))) (qb_of qe_int) (nomark _)) (qss_one (qs_expr (qe_methK (i := 0) (ks := ["at", "add"]) (clT_in (by decide)) t.cl_Network t.me_Network_c_damage F_Network_c_damage (hr.mono (by decide)) B_Network_c_damage tk rfl rfl (by first | exact Or.inl rfl | exact Or.inr (Or.inl rfl) | exact Or.inr (Or.inr rfl)) (qab_cons (qb_peek (i := 2) rfl (by first | exact Or.inl rfl | exact Or.inr (Or.inl rfl) | exact Or.inr (Or.inr rfl))) qab_nil) (qkb_cons (qb_peek (i := 3) rfl (by first | exact Or.inl rfl | exact Or.inr (Or.inl rfl) | exact Or.inr (Or.inr rfl))) (qkb_cons (qb_peek (i := 4) rfl (by first | exact Or.inl rfl | exact Or.inr (Or.inl rfl) | exact Or.inr (Or.inr rfl))) qkb_nil))))) (qss_one (qs_if (qt_cmp (op_eqD hu) eq_ok (qb_peek (i := 1) rfl (by first | exact Or.inl rfl | exact Or.inr (Or.inl rfl) | exact Or.inr (Or.inr rfl))) (qb_of qe_int) (nomark _)) (qss_one (qs_expr (qe_meth (clT_in (by decide)) t.cl_Network t.me_Network_c_packet F_Network_c_packet (hr.mono (by decide)) B_Network_c_packet tk rfl (i := 0) rfl (by first | exact Or.inl rfl | exact Or.inr (Or.inl rfl) | exact Or.inr (Or.inr rfl)) (xqai_cons (qe_var (i := 2) rfl (by first | exact Or.inl rfl | exact Or.inr (Or.inl rfl) | exact Or.inr (Or.inr rfl))) qai_nil)))) (qss_one (qs_expr (qe_meth (clT_in (by decide)) t.cl_Network t.me_Network_c_is_damaged F_Network_c_is_damaged (hr.mono (by decide)) B_Network_c_is_damaged tk rfl (i := 0) rfl (by first | exact Or.inl rfl | exact Or.inr (Or.inl rfl) | exact Or.inr (Or.inr rfl)) (xqai_cons (qe_var (i := 2) rfl (by first | exact Or.inl rfl | exact Or.inr (Or.inl rfl) | exact Or.inr (Or.inr rfl))) qai_nil)))))))))))))) (fun a oe cn C pn ec ef hz hf => (qss_one (qs_ret (qe_lst (xqa_cons (qe_isE (X := (cxOf (L2.CX P w) P w K mg base N__law_try "_law_try" (defScope st__law_try) (He.ga K "_law_try") cdv A outer s H E)) (a := a) (oe := oe) (C := C) (pn := pn) (i := 5) (cn := cn) (excT t ec ef) ec hz hf rfl (by first | exact Or.inl rfl | exact Or.inr (Or.inl rfl) | exact Or.inr (Or.inr rfl)) (by simp) (by exact (pe_glob (v := .ref (He.ga K "BadArgument")) rfl t.g_BadArgument rfl)) (by exact (.own _)) (isB_ok t.i_BadArgument) rfl t.b_isinstance) (xqa_cons (qe_isE (X := (cxOf (L2.CX P w) P w K mg base N__law_try "_law_try" (defScope st__law_try) (He.ga K "_law_try") cdv A outer s H E)) (a := a) (oe := oe) (C := C) (pn := pn) (i := 5) (cn := cn) (excT t ec ef) ec hz hf rfl (by first | exact Or.inl rfl | exact Or.inr (Or.inl rfl) | exact Or.inr (Or.inr rfl)) (by simp) (by exact (pe_glob (v := .ref (He.ga K "Refused")) rfl t.g_Refused rfl)) (by exact (.own _)) (isB_ok t.i_Refused) rfl t.b_isinstance) qa_nil)))))))
  (qss_one (qs_ret qe_non)))
abbrev N__law_like : List Str := ["_law_network", "_law_rows", "_law_k", "_law_index", "_law_packet", "_law_kind", "_law_row", "_law_sender", "_law_to", "_law_block_here"]
theorem sc__law_like : FnScope N__law_like ["_law_network", "_law_rows"] (defScope st__law_like) := ⟨rfl, rfl, rfl, by decide +kernel, rfl, by decide +kernel, by decide +kernel⟩
theorem bn__law_like {fd : FuncData} (F : FunD K "_law_like" "_law_like" (defArgs st__law_like) (defBody st__law_like) (defScope st__law_like) [] [] (He.ga K "_law_like") fd) : Binds K fd ["_law_network", "_law_rows"] [] := F.bindsN fun _ _ _ _ _ _ us hl => match us, hl with | [_, _], _ => rfl
theorem ok__law_like (t : Txt K mg) {fd : FuncData} (F : FunD K "_law_like" "_law_like" (defArgs st__law_like) (defBody st__law_like) (defScope st__law_like) [] [] (He.ga K "_law_like") fd) : FnOk P w K mg base (L2.CX P w) 5 (He.ga K "_law_like") fd ["_law_network", "_law_rows"] (spV K (clT cs K) 2 [0, 1] m__law_like) := by
  obtain ⟨fd_Network_c___len__, D_Network_c___len__⟩ := t.d_Network_c___len__
  have F_Network_c___len__ := ok_Network_c___len__ (P := P) (w := w) (base := base) t D_Network_c___len__
  have K_Network_c___len__ := D_Network_c___len__.kp
  have B_Network_c___len__ := bn_Network_c___len__ D_Network_c___len__
  obtain ⟨fd_Network_c___iter__, D_Network_c___iter__⟩ := t.d_Network_c___iter__
  have F_Network_c___iter__ := ok_Network_c___iter__ (P := P) (w := w) (base := base) t D_Network_c___iter__
  have K_Network_c___iter__ := D_Network_c___iter__.kp
  have B_Network_c___iter__ := bn_Network_c___iter__ D_Network_c___iter__
  obtain ⟨fd_Network_c_packet, D_Network_c_packet⟩ := t.d_Network_c_packet
  have F_Network_c_packet := ok_Network_c_packet (P := P) (w := w) (base := base) t D_Network_c_packet
  have K_Network_c_packet := D_Network_c_packet.kp
  have B_Network_c_packet := bn_Network_c_packet D_Network_c_packet
  obtain ⟨fd_Network_c_is_damaged, D_Network_c_is_damaged⟩ := t.d_Network_c_is_damaged
  have F_Network_c_is_damaged := ok_Network_c_is_damaged (P := P) (w := w) (base := base) t D_Network_c_is_damaged
  have K_Network_c_is_damaged := D_Network_c_is_damaged.kp
  have B_Network_c_is_damaged := bn_Network_c_is_damaged D_Network_c_is_damaged
  obtain ⟨fd__law_try, D__law_try⟩ := t.d__law_try
  have F__law_try := ok__law_try (P := P) (w := w) (base := base) t D__law_try
  have K__law_try := D__law_try.kp
  have B__law_try := bn__law_try D__law_try
  have nd : N__law_like.Nodup := sc__law_like.nd
  refine fn_okD (n := 10) F sc__law_like rfl (by decide) (by decide) fun cdv A outer s H E hr => ?_
  have hu := hu64 hr
  have hu5 := hu65 hr
  exact (qss_cons (qs_if (qt_cmp (op_neD hu) ne_ok (qb_of (qe_lenO (clT_in (by decide)) t.cl_Network t.me_Network_c___len__ F_Network_c___len__ (hr.mono (by decide)) B_Network_c___len__ rfl t.b_len (by decide +kernel) (qb_peek (i := 0) rfl (by first | exact Or.inl rfl | exact Or.inr (Or.inl rfl) | exact Or.inr (Or.inr rfl))))) (qb_of (qe_callB call_len len_ok rfl t.b_len (by decide +kernel) (qab_cons (qb_peek (i := 1) rfl (by first | exact Or.inl rfl | exact Or.inr (Or.inl rfl) | exact Or.inr (Or.inr rfl))) qab_nil))) (nomark _)) (qss_one (qs_ret qe_bl)) qss_nil)
  (qss_cons (qs_if (qt_frz (qt_cmp (op_neD hu) ne_ok (qb_of (qe_compL (i := 0) (clT_in (by decide)) F_Network_c___iter__ (hr.mono (by decide)) rfl (by first | exact Or.inl rfl | exact Or.inr (Or.inl rfl) | exact Or.inr (Or.inr rfl)) rfl nd (blkOk_by (N := N__law_like) (sc := defScope st__law_like) (own := [(("_law_sender" : Str), 7), (("_law_to" : Str), 8), (("_law_block_here" : Str), 9)]) (by decide +kernel)) (fun _ _ _ _ _ => (qg_tup rfl (qgs_cons (qg_name (i := 7) nd rfl (by first | exact Or.inl rfl | exact Or.inr rfl) (by decide)) (qgs_cons (qg_name (i := 8) nd rfl (by first | exact Or.inl rfl | exact Or.inr rfl) (by decide)) (qgs_cons (qg_name (i := 9) nd rfl (by first | exact Or.inl rfl | exact Or.inr rfl) (by decide)) qgs_nil))))) (fun _ _ _ _ _ => qts_nil) (fun _ _ _ _ _ => (qe_tup (xqa_cons (qe_var (i := 7) rfl (by first | exact Or.inl rfl | exact Or.inr (Or.inl rfl) | exact Or.inr (Or.inr rfl))) (xqa_cons (qe_var (i := 8) rfl (by first | exact Or.inl rfl | exact Or.inr (Or.inl rfl) | exact Or.inr (Or.inr rfl))) (xqa_cons (qe_callTy call_list_of listOf_ok rfl t.b_list (by decide +kernel) (qab_cons (qb_peek (i := 9) rfl (by first | exact Or.inl rfl | exact Or.inr (Or.inl rfl) | exact Or.inr (Or.inr rfl))) qab_nil)) qa_nil))))) (by decide) (by decide))) (qb_of (xqe_comp rfl nd (blkOk_by (N := N__law_like) (sc := defScope st__law_like) (own := [(("_law_row" : Str), 6)]) (by decide +kernel)) (qi_seq (qe_var (i := 1) rfl (by first | exact Or.inl rfl | exact Or.inr (Or.inl rfl) | exact Or.inr (Or.inr rfl)))) (fun _ _ _ _ _ => (qg_name (i := 6) nd rfl (by first | exact Or.inl rfl | exact Or.inr rfl) (by decide))) (fun _ _ _ _ _ => qts_nil) (fun _ _ _ _ _ => (qe_tup (xqa_cons (qe_sh (qb_ix (qb_peek (i := 6) rfl (by first | exact Or.inl rfl | exact Or.inr (Or.inl rfl) | exact Or.inr (Or.inr rfl))) (qb_of qe_int))) (xqa_cons (qe_sh (qb_ix (qb_peek (i := 6) rfl (by first | exact Or.inl rfl | exact Or.inr (Or.inl rfl) | exact Or.inr (Or.inr rfl))) (qb_of qe_int))) (xqa_cons (qe_sh (qb_ix (qb_peek (i := 6) rfl (by first | exact Or.inl rfl | exact Or.inr (Or.inl rfl) | exact Or.inr (Or.inr rfl))) (qb_of qe_int))) qa_nil))))) (by decide) (by decide))) (nomark _))) (qss_one (qs_ret qe_bl)) qss_nil)
  (qss_cons (qs_for (passes_of rfl) rfl (qi_range1 (qb_of (qe_callB call_len len_ok rfl t.b_len (by decide +kernel) (qab_cons (qb_peek (i := 1) rfl (by first | exact Or.inl rfl | exact Or.inr (Or.inl rfl) | exact Or.inr (Or.inr rfl))) qab_nil))) rfl t.b_range) (qg_name (i := 2) nd rfl (by first | exact Or.inl rfl | exact Or.inr rfl) (by decide)) (qss_cons (qs_set (i := 4) nd rfl (by first | exact Or.inl rfl | exact Or.inr rfl) (by decide) (qe_meth (clT_in (by decide)) t.cl_Network t.me_Network_c_packet F_Network_c_packet (hr.mono (by decide)) B_Network_c_packet (takes_of rfl rfl rfl rfl) rfl (i := 0) rfl (by first | exact Or.inl rfl | exact Or.inr (Or.inl rfl) | exact Or.inr (Or.inr rfl)) (xqai_cons (qe_var (i := 2) rfl (by first | exact Or.inl rfl | exact Or.inr (Or.inl rfl) | exact Or.inr (Or.inr rfl))) qai_nil)))
  (qss_cons (qs_if (qt_frz (QW.qt (xqw_or (qt_not (qt_of (qb_of (qe_isi (qb_peek (i := 4) rfl (by first | exact Or.inl rfl | exact Or.inr (Or.inl rfl) | exact Or.inr (Or.inr rfl))) (pe_bltn (v := .ty "tuple") rfl t.b_tuple (by decide +kernel) rfl) (.ty _) (isi_ty (by decide +kernel)) rfl t.b_isinstance)))) (qw_one_or (qt_cmp (op_neD hu) ne_ok (qb_peek (i := 4) rfl (by first | exact Or.inl rfl | exact Or.inr (Or.inl rfl) | exact Or.inr (Or.inr rfl))) (qb_of (qe_tup (xqa_cons (qe_sh (qb_ix (qb_ix (qb_peek (i := 1) rfl (by first | exact Or.inl rfl | exact Or.inr (Or.inl rfl) | exact Or.inr (Or.inr rfl))) (qb_peek (i := 2) rfl (by first | exact Or.inl rfl | exact Or.inr (Or.inl rfl) | exact Or.inr (Or.inr rfl)))) (qb_of qe_int))) (xqa_cons (qe_sh (qb_ix (qb_ix (qb_peek (i := 1) rfl (by first | exact Or.inl rfl | exact Or.inr (Or.inl rfl) | exact Or.inr (Or.inr rfl))) (qb_peek (i := 2) rfl (by first | exact Or.inl rfl | exact Or.inr (Or.inl rfl) | exact Or.inr (Or.inr rfl)))) (qb_of qe_int))) (xqa_cons (qe_sh (qb_ix (qb_ix (qb_peek (i := 1) rfl (by first | exact Or.inl rfl | exact Or.inr (Or.inl rfl) | exact Or.inr (Or.inr rfl))) (qb_peek (i := 2) rfl (by first | exact Or.inl rfl | exact Or.inr (Or.inl rfl) | exact Or.inr (Or.inr rfl)))) (qb_of qe_int))) qa_nil))))) (nomark _)))))) (qss_one (qs_ret qe_bl)) qss_nil)
  (qss_cons (qs_expr (qe_appP (qp_ixT (qp_name (i := 4) rfl (by first | exact Or.inl rfl | exact Or.inr (Or.inl rfl) | exact Or.inr (Or.inr rfl))) (qb_of qe_int)) qe_int))
  (qss_one (qs_if (QW.qt (xqw_or (qt_not (qt_of (qb_of (qe_isi (qb_of (qe_meth (clT_in (by decide)) t.cl_Network t.me_Network_c_is_damaged F_Network_c_is_damaged (hr.mono (by decide)) B_Network_c_is_damaged (takes_of rfl rfl rfl rfl) rfl (i := 0) rfl (by first | exact Or.inl rfl | exact Or.inr (Or.inl rfl) | exact Or.inr (Or.inr rfl)) (xqai_cons (qe_var (i := 2) rfl (by first | exact Or.inl rfl | exact Or.inr (Or.inl rfl) | exact Or.inr (Or.inr rfl))) qai_nil))) (pe_bltn (v := .ty "bool") rfl t.b_bool (by decide +kernel) rfl) (.ty _) (isi_ty (by decide +kernel)) rfl t.b_isinstance)))) (qw_one_or (qt_cmp (op_neD hu) ne_ok (qb_of (qe_meth (clT_in (by decide)) t.cl_Network t.me_Network_c_is_damaged F_Network_c_is_damaged (hr.mono (by decide)) B_Network_c_is_damaged (takes_of rfl rfl rfl rfl) rfl (i := 0) rfl (by first | exact Or.inl rfl | exact Or.inr (Or.inl rfl) | exact Or.inr (Or.inr rfl)) (xqai_cons (qe_var (i := 2) rfl (by first | exact Or.inl rfl | exact Or.inr (Or.inl rfl) | exact Or.inr (Or.inr rfl))) qai_nil))) (qb_ix (qb_ix (qb_peek (i := 1) rfl (by first | exact Or.inl rfl | exact Or.inr (Or.inl rfl) | exact Or.inr (Or.inr rfl))) (qb_peek (i := 2) rfl (by first | exact Or.inl rfl | exact Or.inr (Or.inl rfl) | exact Or.inr (Or.inr rfl)))) (qb_of qe_int)) (nomark _))))) (qss_one (qs_ret qe_bl)) qss_nil))))))
  (qss_cons (qs_for (passes_of rfl) rfl (qi_seq (qe_lst (xqa_cons (qe_callB call_len len_ok rfl t.b_len (by decide +kernel) (qab_cons (qb_peek (i := 1) rfl (by first | exact Or.inl rfl | exact Or.inr (Or.inl rfl) | exact Or.inr (Or.inr rfl))) qab_nil)) (xqa_cons (qe_op2 op_sub sub_ok (qb_of (qe_un un_neg neg_ok (qb_of qe_int))) (qb_of (qe_callB call_len len_ok rfl t.b_len (by decide +kernel) (qab_cons (qb_peek (i := 1) rfl (by first | exact Or.inl rfl | exact Or.inr (Or.inl rfl) | exact Or.inr (Or.inr rfl))) qab_nil)))) (xqa_cons (qe_un un_neg neg_ok (qb_of qe_int)) (xqa_cons (qe_op2 op_addU add_ok (qb_of (qe_callB call_len len_ok rfl t.b_len (by decide +kernel) (qab_cons (qb_peek (i := 1) rfl (by first | exact Or.inl rfl | exact Or.inr (Or.inl rfl) | exact Or.inr (Or.inr rfl))) qab_nil))) (qb_of qe_int)) qa_nil)))))) (qg_name (i := 3) nd rfl (by first | exact Or.inl rfl | exact Or.inr rfl) (by decide)) (qss_one (qs_for (passes_of rfl) rfl (qi_range1 (qb_of qe_int) rfl t.b_range) (qg_name (i := 5) nd rfl (by first | exact Or.inl rfl | exact Or.inr rfl) (by decide)) (qss_one (qs_if (qt_cmp (op_neD hu) ne_ok (qb_of (qe_call F__law_try (hr.mono (by decide)) rfl t.g__law_try K__law_try B__law_try (takes_of rfl rfl rfl rfl) rfl (qai_io (i := 0) rfl (by first | exact Or.inl rfl | exact Or.inr (Or.inl rfl) | exact Or.inr (Or.inr rfl)) (xqai_cons (qe_var (i := 5) rfl (by first | exact Or.inl rfl | exact Or.inr (Or.inl rfl) | exact Or.inr (Or.inr rfl))) (xqai_cons (qe_var (i := 3) rfl (by first | exact Or.inl rfl | exact Or.inr (Or.inl rfl) | exact Or.inr (Or.inr rfl))) (xqai_cons qe_int (xqai_cons qe_int qai_nil))))))) (qb_of (qe_lst (xqa_cons qe_bl (xqa_cons qe_bl qa_nil)))) (nomark _)) (qss_one (qs_ret qe_bl)) qss_nil)))))
  (qss_one (qs_ret qe_bl))))))
abbrev N__law_damage : List Str := ["_law_network", "_law_rows", "_law_index", "_law_cell_here", "_law_row", "_law_at", "_law_step", "_law_told"]
theorem sc__law_damage : FnScope N__law_damage ["_law_network", "_law_rows", "_law_index", "_law_cell_here"] (defScope st__law_damage) := ⟨rfl, rfl, rfl, by decide +kernel, rfl, by decide +kernel, by decide +kernel⟩
theorem bn__law_damage {fd : FuncData} (F : FunD K "_law_damage" "_law_damage" (defArgs st__law_damage) (defBody st__law_damage) (defScope st__law_damage) [] [] (He.ga K "_law_damage") fd) : Binds K fd ["_law_network", "_law_rows", "_law_index", "_law_cell_here"] [] := F.bindsN fun _ _ _ _ _ _ us hl => match us, hl with | [_, _, _, _], _ => rfl
theorem ok__law_damage (t : Txt K mg) {fd : FuncData} (F : FunD K "_law_damage" "_law_damage" (defArgs st__law_damage) (defBody st__law_damage) (defScope st__law_damage) [] [] (He.ga K "_law_damage") fd) : FnOk P w K mg base (L2.CX P w) 5 (He.ga K "_law_damage") fd ["_law_network", "_law_rows", "_law_index", "_law_cell_here"] (spV K (clT cs K) 4 [0, 1] m__law_damage) := by
  obtain ⟨fd__law_try, D__law_try⟩ := t.d__law_try
  have F__law_try := ok__law_try (P := P) (w := w) (base := base) t D__law_try
  have K__law_try := D__law_try.kp
  have B__law_try := bn__law_try D__law_try
  have nd : N__law_damage.Nodup := sc__law_damage.nd
  refine fn_okD (n := 8) F sc__law_damage rfl (by decide) (by decide) fun cdv A outer s H E hr => ?_
  have hu := hu64 hr
  have hu5 := hu65 hr
  exact (qss_borrow (i0 := 1) (ir := 4) nd rfl rfl (by decide) (qp_ix (qp_name (i := 1) rfl (by first | exact Or.inl rfl | exact Or.inr (Or.inl rfl) | exact Or.inr (Or.inr rfl))) (qb_peek (i := 2) rfl (by first | exact Or.inl rfl | exact Or.inr (Or.inl rfl) | exact Or.inr (Or.inr rfl))))
  (qss_cons (qs_set (i := 5) nd rfl (by first | exact Or.inl rfl | exact Or.inr rfl) (by show _ ∉ ([1, 4, 0, 1] : List Nat); decide) (qe_op2 op_sub sub_ok (qb_of (qe_op2 op_mod mod_ok (qb_of (qe_callTy call_int1 intc_ok rfl t.b_int (by decide +kernel) (qab_cons (qb_peek (i := 3) rfl (by first | exact Or.inl rfl | exact Or.inr (Or.inl rfl) | exact Or.inr (Or.inr rfl))) qab_nil))) (qb_of (qe_op2 op_addU add_ok (qb_of (qe_callB call_len len_ok rfl t.b_len (by decide +kernel) (qab_cons (qb_ix (qb_peek (i := 4) rfl (by first | exact Or.inl rfl | exact Or.inr (Or.inl rfl) | exact Or.inr (Or.inr rfl))) (qb_of qe_int)) qab_nil))) (qb_of qe_int))))) (qb_of qe_int)))
  (qss_cons (qs_set (i := 6) nd rfl (by first | exact Or.inl rfl | exact Or.inr rfl) (by show _ ∉ ([1, 4, 0, 1] : List Nat); decide) (qe_sh (qb_ix (qb_of (qe_lst (xqa_cons (qe_op2 op_mod mod_ok (qb_of (qe_callTy call_int1 intc_ok rfl t.b_int (by decide +kernel) (qab_cons (qb_peek (i := 3) rfl (by first | exact Or.inl rfl | exact Or.inr (Or.inl rfl) | exact Or.inr (Or.inr rfl))) qab_nil))) (qb_of qe_int)) (xqa_cons (qe_op2 op_addU add_ok (qb_of qe_int) (qb_of (qe_op2 op_mod mod_ok (qb_of (qe_callTy call_int1 intc_ok rfl t.b_int (by decide +kernel) (qab_cons (qb_peek (i := 3) rfl (by first | exact Or.inl rfl | exact Or.inr (Or.inl rfl) | exact Or.inr (Or.inr rfl))) qab_nil))) (qb_of qe_int)))) qa_nil)))) (qb_of (qe_op2 op_mod mod_ok (qb_of (qe_op2 op_fdiv div_ok (qb_peek (i := 3) rfl (by first | exact Or.inl rfl | exact Or.inr (Or.inl rfl) | exact Or.inr (Or.inr rfl))) (qb_of qe_int))) (qb_of qe_int))))))
  (qss_cons (qs_set (i := 7) nd rfl (by first | exact Or.inl rfl | exact Or.inr rfl) (by show _ ∉ ([1, 4, 0, 1] : List Nat); decide) (qe_call F__law_try (hr.mono (by decide)) rfl t.g__law_try K__law_try B__law_try (takes_of rfl rfl rfl rfl) rfl (qai_io (i := 0) rfl (by first | exact Or.inl rfl | exact Or.inr (Or.inl rfl) | exact Or.inr (Or.inr rfl)) (xqai_cons qe_int (xqai_cons (qe_var (i := 2) rfl (by first | exact Or.inl rfl | exact Or.inr (Or.inl rfl) | exact Or.inr (Or.inr rfl))) (xqai_cons (qe_var (i := 5) rfl (by first | exact Or.inl rfl | exact Or.inr (Or.inl rfl) | exact Or.inr (Or.inr rfl))) (xqai_cons (qe_var (i := 6) rfl (by first | exact Or.inl rfl | exact Or.inr (Or.inl rfl) | exact Or.inr (Or.inr rfl))) qai_nil)))))))
  (qss_cons (qs_if (QW.qt (xqw_or (qt_cmp op_ltU lt_ok (qb_peek (i := 5) rfl (by first | exact Or.inl rfl | exact Or.inr (Or.inl rfl) | exact Or.inr (Or.inr rfl))) (qb_of qe_int) (nomark _)) (xqw_or (qt_cmp op_geU ge_ok (qb_peek (i := 5) rfl (by first | exact Or.inl rfl | exact Or.inr (Or.inl rfl) | exact Or.inr (Or.inr rfl))) (qb_of (qe_callB call_len len_ok rfl t.b_len (by decide +kernel) (qab_cons (qb_ix (qb_peek (i := 4) rfl (by first | exact Or.inl rfl | exact Or.inr (Or.inl rfl) | exact Or.inr (Or.inr rfl))) (qb_of qe_int)) qab_nil))) (nomark _)) (xqw_or (qt_cmp op_ltU lt_ok (qb_peek (i := 6) rfl (by first | exact Or.inl rfl | exact Or.inr (Or.inl rfl) | exact Or.inr (Or.inr rfl))) (qb_of qe_int) (nomark _)) (qw_one_or (qt_cmp op_gtU gt_ok (qb_peek (i := 6) rfl (by first | exact Or.inl rfl | exact Or.inr (Or.inl rfl) | exact Or.inr (Or.inr rfl))) (qb_of qe_int) (nomark _))))))) (qss_one (qs_ret (qe_cmp (op_eqD hu) eq_ok (qb_peek (i := 7) rfl (by first | exact Or.inl rfl | exact Or.inr (Or.inl rfl) | exact Or.inr (Or.inr rfl))) (qb_of (qe_lst (xqa_cons qe_bl (xqa_cons qe_bl qa_nil)))) (nomark _)))) qss_nil)
  (qss_cons (qs_if (qt_of (qb_ix (qb_peek (i := 4) rfl (by first | exact Or.inl rfl | exact Or.inr (Or.inl rfl) | exact Or.inr (Or.inr rfl))) (qb_of qe_int))) (qss_one (qs_ret (qe_cmp (op_eqD hu) eq_ok (qb_peek (i := 7) rfl (by first | exact Or.inl rfl | exact Or.inr (Or.inl rfl) | exact Or.inr (Or.inr rfl))) (qb_of (qe_lst (xqa_cons qe_bl (xqa_cons qe_bl qa_nil)))) (nomark _)))) qss_nil)
  (qss_cons (qs_setIx (i := 4) rfl (by first | exact Or.inl rfl | exact Or.inr (Or.inl rfl) | exact Or.inr (Or.inr rfl)) (qe_callTy call_list_of listOf_ok rfl t.b_list (by decide +kernel) (qab_cons (qb_ix (qb_peek (i := 4) rfl (by first | exact Or.inl rfl | exact Or.inr (Or.inl rfl) | exact Or.inr (Or.inr rfl))) (qb_of qe_int)) qab_nil)) (qb_of qe_int))
  (qss_cons (qs_lputP (qp_ix (qp_name (i := 4) rfl (by first | exact Or.inl rfl | exact Or.inr (Or.inl rfl) | exact Or.inr (Or.inr rfl))) (qb_of qe_int)) (qe_op2 op_mod mod_ok (qb_of (qe_callTy call_int1 intc_ok rfl t.b_int (by decide +kernel) (qab_cons (qb_of (qe_op2 op_addU add_ok (qb_ix (qb_ix (qb_peek (i := 4) rfl (by first | exact Or.inl rfl | exact Or.inr (Or.inl rfl) | exact Or.inr (Or.inr rfl))) (qb_of qe_int)) (qb_peek (i := 5) rfl (by first | exact Or.inl rfl | exact Or.inr (Or.inl rfl) | exact Or.inr (Or.inr rfl)))) (qb_peek (i := 6) rfl (by first | exact Or.inl rfl | exact Or.inr (Or.inl rfl) | exact Or.inr (Or.inr rfl))))) qab_nil))) (qb_of qe_int)) (qb_peek (i := 5) rfl (by first | exact Or.inl rfl | exact Or.inr (Or.inl rfl) | exact Or.inr (Or.inr rfl))))
  (qss_cons (qs_setIx (i := 4) rfl (by first | exact Or.inl rfl | exact Or.inr (Or.inl rfl) | exact Or.inr (Or.inr rfl)) qe_bl (qb_of qe_int))
  (qss_one (qs_ret (qe_cmp op_isN is_ok (qb_peek (i := 7) rfl (by first | exact Or.inl rfl | exact Or.inr (Or.inl rfl) | exact Or.inr (Or.inr rfl))) (qb_of qe_non) (nomark _)))))))))))))
abbrev N_law : List Str := ["_law_script", "_law_network", "_law_rows", "_law_k", "_law_cell_here", "_law_kind", "_law_block_here", "_law_index"]
theorem sc_law : FnScope N_law ["_law_script"] (defScope st_law) := ⟨rfl, rfl, rfl, by decide +kernel, rfl, by decide +kernel, by decide +kernel⟩
theorem bn_law {fd : FuncData} (F : FunD K "law" "law" (defArgs st_law) (defBody st_law) (defScope st_law) [] [] (He.ga K "law") fd) : Binds K fd ["_law_script"] [] := F.bindsN fun _ _ _ _ _ _ us hl => match us, hl with | [_], _ => rfl
theorem ok_law (t : Txt K mg) {fd : FuncData} (F : FunD K "law" "law" (defArgs st_law) (defBody st_law) (defScope st_law) [] [] (He.ga K "law") fd) : FnOk P w K mg base (L2.CX P w) 6 (He.ga K "law") fd ["_law_script"] (spV K (clT cs K) 1 [] m_law) := by
  obtain ⟨fd_Network_c___init__, D_Network_c___init__⟩ := t.d_Network_c___init__
  have F_Network_c___init__ := ok_Network_c___init__ (P := P) (w := w) (base := base) t D_Network_c___init__
  have K_Network_c___init__ := D_Network_c___init__.kp
  have B_Network_c___init__ := bn_Network_c___init__ D_Network_c___init__
  obtain ⟨fd__law_cell, D__law_cell⟩ := t.d__law_cell
  have F__law_cell := ok__law_cell (P := P) (w := w) (base := base) t D__law_cell
  have K__law_cell := D__law_cell.kp
  have B__law_cell := bn__law_cell D__law_cell
  obtain ⟨fd__law_block, D__law_block⟩ := t.d__law_block
  have F__law_block := ok__law_block (P := P) (w := w) (base := base) t D__law_block
  have K__law_block := D__law_block.kp
  have B__law_block := bn__law_block D__law_block
  obtain ⟨fd_Network_c_post, D_Network_c_post⟩ := t.d_Network_c_post
  have F_Network_c_post := ok_Network_c_post (P := P) (w := w) (base := base) t D_Network_c_post
  have K_Network_c_post := D_Network_c_post.kp
  have B_Network_c_post := bn_Network_c_post D_Network_c_post
  obtain ⟨fd__law_like, D__law_like⟩ := t.d__law_like
  have F__law_like := ok__law_like (P := P) (w := w) (base := base) t D__law_like
  have K__law_like := D__law_like.kp
  have B__law_like := bn__law_like D__law_like
  obtain ⟨fd__law_try, D__law_try⟩ := t.d__law_try
  have F__law_try := ok__law_try (P := P) (w := w) (base := base) t D__law_try
  have K__law_try := D__law_try.kp
  have B__law_try := bn__law_try D__law_try
  obtain ⟨fd__law_damage, D__law_damage⟩ := t.d__law_damage
  have F__law_damage := ok__law_damage (P := P) (w := w) (base := base) t D__law_damage
  have K__law_damage := D__law_damage.kp
  have B__law_damage := bn__law_damage D__law_damage
  have nd : N_law.Nodup := sc_law.nd
  refine fn_okD (n := 8) F sc_law rfl (by decide) (by decide) fun cdv A outer s H E hr => ?_
  have hu := hu64 hr
  have hu5 := hu65 hr
  exact (qss_cons (qs_set (i := 1) nd rfl (by first | exact Or.inl rfl | exact Or.inr rfl) (by decide) (qe_make0 (clT_in (by decide)) t.mk_Network F_Network_c___init__ (hr.mono (by decide)) rfl t.g_Network B_Network_c___init__ (takes_of rfl rfl rfl rfl)))
  (qss_cons (qs_set (i := 2) nd rfl (by first | exact Or.inl rfl | exact Or.inr rfl) (by decide) (qe_lst qa_nil))
  (qss_cons (qs_for (passes_of rfl) rfl (qi_range1 (qb_of (qe_callB (call_min2 rfl) min2_ok rfl t.b_min (by decide +kernel) (qab_cons (qb_of qe_int) (qab_cons (qb_of (qe_callB call_len len_ok rfl t.b_len (by decide +kernel) (qab_cons (qb_peek (i := 0) rfl (by first | exact Or.inl rfl | exact Or.inr (Or.inl rfl) | exact Or.inr (Or.inr rfl))) qab_nil))) qab_nil)))) rfl t.b_range) (qg_name (i := 3) nd rfl (by first | exact Or.inl rfl | exact Or.inr rfl) (by decide)) (qss_cons (qs_set (i := 4) nd rfl (by first | exact Or.inl rfl | exact Or.inr rfl) (by decide) (qe_callL F__law_cell (hr.mono (by decide)) rfl t.g__law_cell K__law_cell B__law_cell (takes_of rfl rfl rfl rfl) (qab_cons (qb_peek (i := 0) rfl (by first | exact Or.inl rfl | exact Or.inr (Or.inl rfl) | exact Or.inr (Or.inr rfl))) (qab_cons (qb_peek (i := 3) rfl (by first | exact Or.inl rfl | exact Or.inr (Or.inl rfl) | exact Or.inr (Or.inr rfl))) qab_nil))))
  (qss_cons (qs_set (i := 5) nd rfl (by first | exact Or.inl rfl | exact Or.inr rfl) (by decide) (qe_op2 op_mod mod_ok (qb_of (qe_callTy call_int1 intc_ok rfl t.b_int (by decide +kernel) (qab_cons (qb_peek (i := 4) rfl (by first | exact Or.inl rfl | exact Or.inr (Or.inl rfl) | exact Or.inr (Or.inr rfl))) qab_nil))) (qb_of qe_int)))
  (qss_cons (qs_set (i := 4) nd rfl (by first | exact Or.inl rfl | exact Or.inr rfl) (by decide) (qe_op2 op_fdiv div_ok (qb_peek (i := 4) rfl (by first | exact Or.inl rfl | exact Or.inr (Or.inl rfl) | exact Or.inr (Or.inr rfl))) (qb_of qe_int)))
  (qss_cons (qs_if (QW.qt (xqw_or (qt_cmp op_ltU lt_ok (qb_peek (i := 5) rfl (by first | exact Or.inl rfl | exact Or.inr (Or.inl rfl) | exact Or.inr (Or.inr rfl))) (qb_of qe_int) (nomark _)) (qw_one_or (qt_cmp (op_eqD hu) eq_ok (qb_peek (i := 2) rfl (by first | exact Or.inl rfl | exact Or.inr (Or.inl rfl) | exact Or.inr (Or.inr rfl))) (qb_of (qe_lst qa_nil)) (nomark _))))) (qss_cons (qs_set (i := 6) nd rfl (by first | exact Or.inl rfl | exact Or.inr rfl) (by decide) (qe_callF F__law_block (hr.mono (by decide)) rfl t.g__law_block K__law_block B__law_block (takes_of rfl rfl rfl rfl) (xqa_cons (qe_var (i := 4) rfl (by first | exact Or.inl rfl | exact Or.inr (Or.inl rfl) | exact Or.inr (Or.inr rfl))) (xqa_cons (qe_op2 op_mod mod_ok (qb_of (qe_callTy call_int1 intc_ok rfl t.b_int (by decide +kernel) (qab_cons (qb_peek (i := 4) rfl (by first | exact Or.inl rfl | exact Or.inr (Or.inl rfl) | exact Or.inr (Or.inr rfl))) qab_nil))) (qb_of qe_int)) qa_nil))))
  (qss_cons (qs_expr (qe_meth (clT_in (by decide)) t.cl_Network t.me_Network_c_post F_Network_c_post (hr.mono (by decide)) B_Network_c_post (takes_of rfl rfl rfl rfl) rfl (i := 1) rfl (by first | exact Or.inl rfl | exact Or.inr (Or.inl rfl) | exact Or.inr (Or.inr rfl)) (xqai_cons (qe_op2 op_mod mod_ok (qb_of (qe_callTy call_int1 intc_ok rfl t.b_int (by decide +kernel) (qab_cons (qb_peek (i := 4) rfl (by first | exact Or.inl rfl | exact Or.inr (Or.inl rfl) | exact Or.inr (Or.inr rfl))) qab_nil))) (qb_of qe_int)) (xqai_cons (qe_op2 op_mod mod_ok (qb_of (qe_op2 op_fdiv div_ok (qb_peek (i := 4) rfl (by first | exact Or.inl rfl | exact Or.inr (Or.inl rfl) | exact Or.inr (Or.inr rfl))) (qb_of qe_int))) (qb_of qe_int)) (qai_io (i := 6) rfl (by first | exact Or.inl rfl | exact Or.inr (Or.inl rfl) | exact Or.inr (Or.inr rfl)) qai_nil)))))
  (qss_cons (qs_expr (qe_append (i := 2) rfl (by first | exact Or.inl rfl | exact Or.inr (Or.inl rfl) | exact Or.inr (Or.inr rfl)) (qe_lst (xqa_cons (qe_op2 op_mod mod_ok (qb_of (qe_callTy call_int1 intc_ok rfl t.b_int (by decide +kernel) (qab_cons (qb_peek (i := 4) rfl (by first | exact Or.inl rfl | exact Or.inr (Or.inl rfl) | exact Or.inr (Or.inr rfl))) qab_nil))) (qb_of qe_int)) (xqa_cons (qe_op2 op_mod mod_ok (qb_of (qe_op2 op_fdiv div_ok (qb_peek (i := 4) rfl (by first | exact Or.inl rfl | exact Or.inr (Or.inl rfl) | exact Or.inr (Or.inr rfl))) (qb_of qe_int))) (qb_of qe_int)) (xqa_cons (qe_callTy call_list_of listOf_ok rfl t.b_list (by decide +kernel) (qab_cons (qb_peek (i := 6) rfl (by first | exact Or.inl rfl | exact Or.inr (Or.inl rfl) | exact Or.inr (Or.inr rfl))) qab_nil)) (xqa_cons qe_bl qa_nil)))))))
  (qss_one (qs_expr (qe_append (i := 6) rfl (by first | exact Or.inl rfl | exact Or.inr (Or.inl rfl) | exact Or.inr (Or.inr rfl)) qe_int)))))) (qss_cons (qs_set (i := 7) nd rfl (by first | exact Or.inl rfl | exact Or.inr rfl) (by decide) (qe_op2 op_mod mod_ok (qb_of (qe_callTy call_int1 intc_ok rfl t.b_int (by decide +kernel) (qab_cons (qb_peek (i := 4) rfl (by first | exact Or.inl rfl | exact Or.inr (Or.inl rfl) | exact Or.inr (Or.inr rfl))) qab_nil))) (qb_of (qe_callB call_len len_ok rfl t.b_len (by decide +kernel) (qab_cons (qb_peek (i := 2) rfl (by first | exact Or.inl rfl | exact Or.inr (Or.inl rfl) | exact Or.inr (Or.inr rfl))) qab_nil)))))
  (qss_cons (qs_if (QW.qt (xqw_and (qt_cmp (op_eqD hu) eq_ok (qb_peek (i := 5) rfl (by first | exact Or.inl rfl | exact Or.inr (Or.inl rfl) | exact Or.inr (Or.inr rfl))) (qb_of qe_int) (nomark _)) (qw_one_and (qt_cmp (op_neD hu) ne_ok (qb_of (qe_call F__law_try (hr.mono (by decide)) rfl t.g__law_try K__law_try B__law_try (takes_of rfl rfl rfl rfl) rfl (qai_io (i := 1) rfl (by first | exact Or.inl rfl | exact Or.inr (Or.inl rfl) | exact Or.inr (Or.inr rfl)) (xqai_cons qe_int (xqai_cons (qe_var (i := 7) rfl (by first | exact Or.inl rfl | exact Or.inr (Or.inl rfl) | exact Or.inr (Or.inr rfl))) (xqai_cons qe_int (xqai_cons qe_int qai_nil))))))) (qb_tupL (qab_cons (qb_ix (qb_ix (qb_peek (i := 2) rfl (by first | exact Or.inl rfl | exact Or.inr (Or.inl rfl) | exact Or.inr (Or.inr rfl))) (qb_peek (i := 7) rfl (by first | exact Or.inl rfl | exact Or.inr (Or.inl rfl) | exact Or.inr (Or.inr rfl)))) (qb_of qe_int)) (qab_cons (qb_ix (qb_ix (qb_peek (i := 2) rfl (by first | exact Or.inl rfl | exact Or.inr (Or.inl rfl) | exact Or.inr (Or.inr rfl))) (qb_peek (i := 7) rfl (by first | exact Or.inl rfl | exact Or.inr (Or.inl rfl) | exact Or.inr (Or.inr rfl)))) (qb_of qe_int)) (qab_cons (qb_ix (qb_ix (qb_peek (i := 2) rfl (by first | exact Or.inl rfl | exact Or.inr (Or.inl rfl) | exact Or.inr (Or.inr rfl))) (qb_peek (i := 7) rfl (by first | exact Or.inl rfl | exact Or.inr (Or.inl rfl) | exact Or.inr (Or.inr rfl)))) (qb_of qe_int)) qab_nil)))) (nomark _))))) (qss_one (qs_ret qe_bl)) qss_nil)
  (qss_cons (qs_if (QW.qt (xqw_and (qt_cmp (op_eqD hu) eq_ok (qb_peek (i := 5) rfl (by first | exact Or.inl rfl | exact Or.inr (Or.inl rfl) | exact Or.inr (Or.inr rfl))) (qb_of qe_int) (nomark _)) (qw_one_and (qt_cmp op_notN isnot_ok (qb_of (qe_call F__law_try (hr.mono (by decide)) rfl t.g__law_try K__law_try B__law_try (takes_of rfl rfl rfl rfl) rfl (qai_io (i := 1) rfl (by first | exact Or.inl rfl | exact Or.inr (Or.inl rfl) | exact Or.inr (Or.inr rfl)) (xqai_cons qe_int (xqai_cons (qe_var (i := 7) rfl (by first | exact Or.inl rfl | exact Or.inr (Or.inl rfl) | exact Or.inr (Or.inr rfl))) (xqai_cons qe_int (xqai_cons qe_int qai_nil))))))) (qb_of qe_non) (nomark _))))) (qss_one (qs_ret qe_bl)) qss_nil)
  (qss_cons (qs_if (QW.qt (xqw_or (qt_cmp (op_eqD hu) eq_ok (qb_peek (i := 5) rfl (by first | exact Or.inl rfl | exact Or.inr (Or.inl rfl) | exact Or.inr (Or.inr rfl))) (qb_of qe_int) (nomark _)) (qw_one_or (qt_cmp (op_eqD hu) eq_ok (qb_peek (i := 5) rfl (by first | exact Or.inl rfl | exact Or.inr (Or.inl rfl) | exact Or.inr (Or.inr rfl))) (qb_of qe_int) (nomark _))))) (qss_one (qs_cut2 (ix := 2) nd rfl (by first | exact Or.inl rfl | exact Or.inr (Or.inl rfl) | exact Or.inr (Or.inr rfl)) rfl (by decide) (qb_peek (i := 7) rfl (by first | exact Or.inl rfl | exact Or.inr (Or.inl rfl) | exact Or.inr (Or.inr rfl))) (qb_of (qe_op2 op_addU add_ok (qb_peek (i := 7) rfl (by first | exact Or.inl rfl | exact Or.inr (Or.inl rfl) | exact Or.inr (Or.inr rfl))) (qb_of qe_int))))) qss_nil)
  (qss_cons (qs_if (qt_cmp (op_eqD hu) eq_ok (qb_peek (i := 5) rfl (by first | exact Or.inl rfl | exact Or.inr (Or.inl rfl) | exact Or.inr (Or.inr rfl))) (qb_of qe_int) (nomark _)) (qss_cons (qs_if (qt_cmp op_notN isnot_ok (qb_of (qe_call F__law_try (hr.mono (by decide)) rfl t.g__law_try K__law_try B__law_try (takes_of rfl rfl rfl rfl) rfl (qai_io (i := 1) rfl (by first | exact Or.inl rfl | exact Or.inr (Or.inl rfl) | exact Or.inr (Or.inr rfl)) (xqai_cons qe_int (xqai_cons (qe_var (i := 7) rfl (by first | exact Or.inl rfl | exact Or.inr (Or.inl rfl) | exact Or.inr (Or.inr rfl))) (xqai_cons qe_int (xqai_cons qe_int qai_nil))))))) (qb_of qe_non) (nomark _)) (qss_one (qs_ret qe_bl)) qss_nil)
  (qss_one (qs_expr (qe_append (i := 2) rfl (by first | exact Or.inl rfl | exact Or.inr (Or.inl rfl) | exact Or.inr (Or.inr rfl)) (qe_lst (xqa_cons (qe_sh (qb_ix (qb_ix (qb_peek (i := 2) rfl (by first | exact Or.inl rfl | exact Or.inr (Or.inl rfl) | exact Or.inr (Or.inr rfl))) (qb_peek (i := 7) rfl (by first | exact Or.inl rfl | exact Or.inr (Or.inl rfl) | exact Or.inr (Or.inr rfl)))) (qb_of qe_int))) (xqa_cons (qe_sh (qb_ix (qb_ix (qb_peek (i := 2) rfl (by first | exact Or.inl rfl | exact Or.inr (Or.inl rfl) | exact Or.inr (Or.inr rfl))) (qb_peek (i := 7) rfl (by first | exact Or.inl rfl | exact Or.inr (Or.inl rfl) | exact Or.inr (Or.inr rfl)))) (qb_of qe_int))) (xqa_cons (qe_callTy call_list_of listOf_ok rfl t.b_list (by decide +kernel) (qab_cons (qb_ix (qb_ix (qb_peek (i := 2) rfl (by first | exact Or.inl rfl | exact Or.inr (Or.inl rfl) | exact Or.inr (Or.inr rfl))) (qb_peek (i := 7) rfl (by first | exact Or.inl rfl | exact Or.inr (Or.inl rfl) | exact Or.inr (Or.inr rfl)))) (qb_of qe_int)) qab_nil)) (xqa_cons (qe_sh (qb_ix (qb_ix (qb_peek (i := 2) rfl (by first | exact Or.inl rfl | exact Or.inr (Or.inl rfl) | exact Or.inr (Or.inr rfl))) (qb_peek (i := 7) rfl (by first | exact Or.inl rfl | exact Or.inr (Or.inl rfl) | exact Or.inr (Or.inr rfl)))) (qb_of qe_int))) qa_nil))))))))) qss_nil)
  (qss_one (qs_if (QW.qt (xqw_and (qt_cmp (op_eqD hu) eq_ok (qb_peek (i := 5) rfl (by first | exact Or.inl rfl | exact Or.inr (Or.inl rfl) | exact Or.inr (Or.inr rfl))) (qb_of qe_int) (nomark _)) (qw_one_and (qt_not (qt_of (qb_of (qe_call F__law_damage (hr.mono (by decide)) rfl t.g__law_damage K__law_damage B__law_damage (takes_of rfl rfl rfl rfl) rfl (qai_io (i := 1) rfl (by first | exact Or.inl rfl | exact Or.inr (Or.inl rfl) | exact Or.inr (Or.inr rfl)) (qai_io (i := 2) rfl (by first | exact Or.inl rfl | exact Or.inr (Or.inl rfl) | exact Or.inr (Or.inr rfl)) (xqai_cons (qe_var (i := 7) rfl (by first | exact Or.inl rfl | exact Or.inr (Or.inl rfl) | exact Or.inr (Or.inr rfl))) (xqai_cons (qe_op2 op_fdiv div_ok (qb_peek (i := 4) rfl (by first | exact Or.inl rfl | exact Or.inr (Or.inl rfl) | exact Or.inr (Or.inr rfl))) (qb_of qe_int)) qai_nil))))))))))) (qss_one (qs_ret qe_bl)) qss_nil))))))))
  (qss_one (qs_if (qt_not (qt_of (qb_of (qe_call F__law_like (hr.mono (by decide)) rfl t.g__law_like K__law_like B__law_like (takes_of rfl rfl rfl rfl) rfl (qai_io (i := 1) rfl (by first | exact Or.inl rfl | exact Or.inr (Or.inl rfl) | exact Or.inr (Or.inr rfl)) (qai_io (i := 2) rfl (by first | exact Or.inl rfl | exact Or.inr (Or.inl rfl) | exact Or.inr (Or.inr rfl)) qai_nil)))))) (qss_one (qs_ret qe_bl)) qss_nil)))))))
  (qss_one (qs_ret qe_bl)))))
end
/-! ### the head -/
theorem txt_of {w : World} {K : PySem.W.Frag} {h : Heap} {mg : Str → Option Value} (X : K.In h) (G : h.Ns mainGlobals mg) (c : He.SaysX fa fn [] [] ex w h K) : Txt K mg :=
  have hx : (catB cs (.ref (He.ga K "MeridianError")) ["MeridianError", "BadArgument", "Refused"] K && (isB cs (.ref (He.ga K "BadArgument")) ["BadArgument"] K && (isB cs (.ref (He.ga K "Refused")) ["Refused"] K && (((["MeridianError", "BadArgument", "Refused"] : List String).all fun x => excB x K))))) = true := c.more
  { g_MeridianError := He.glo_ok X G (c.t.d.fact 0 (f := .glo "MeridianError") rfl),
    g_BadArgument := He.glo_ok X G (c.t.d.fact 1 (f := .glo "BadArgument") rfl),
    g_Refused := He.glo_ok X G (c.t.d.fact 2 (f := .glo "Refused") rfl),
    g_Network := He.glo_ok X G (c.t.d.fact 3 (f := .glo "Network") rfl),
    g__law_cell := He.glo_ok X G (c.t.d.fact 4 (f := .glo "_law_cell") rfl),
    g__law_draws := He.glo_ok X G (c.t.d.fact 5 (f := .glo "_law_draws") rfl),
    g__law_block := He.glo_ok X G (c.t.d.fact 6 (f := .glo "_law_block") rfl),
    g__law_try := He.glo_ok X G (c.t.d.fact 7 (f := .glo "_law_try") rfl),
    g__law_like := He.glo_ok X G (c.t.d.fact 8 (f := .glo "_law_like") rfl),
    g__law_damage := He.glo_ok X G (c.t.d.fact 9 (f := .glo "_law_damage") rfl),
    g_law := He.glo_ok X G (c.t.d.fact 10 (f := .glo "law") rfl),
    b_abs := He.free_ok X G (c.t.d.fact 11 (f := .free "abs") rfl),
    b_bool := He.free_ok X G (c.t.d.fact 12 (f := .free "bool") rfl),
    b_int := He.free_ok X G (c.t.d.fact 13 (f := .free "int") rfl),
    b_isinstance := He.free_ok X G (c.t.d.fact 14 (f := .free "isinstance") rfl),
    b_iter := He.free_ok X G (c.t.d.fact 15 (f := .free "iter") rfl),
    b_len := He.free_ok X G (c.t.d.fact 16 (f := .free "len") rfl),
    b_list := He.free_ok X G (c.t.d.fact 17 (f := .free "list") rfl),
    b_min := He.free_ok X G (c.t.d.fact 18 (f := .free "min") rfl),
    b_range := He.free_ok X G (c.t.d.fact 19 (f := .free "range") rfl),
    b_tuple := He.free_ok X G (c.t.d.fact 20 (f := .free "tuple") rfl),
    x_BadArgument := c.t.d.fact 21 (f := .exc "BadArgument") rfl,
    x_Refused := c.t.d.fact 22 (f := .exc "Refused") rfl,
    cl_Network := He.cls_ok (c.t.d.fact 23 (f := .cls "Network") rfl),
    me_Network_c___iter__ := He.meth_ok (c.t.d.fact 24 (f := .meth "Network" "__iter__") rfl),
    me_Network_c___len__ := He.meth_ok (c.t.d.fact 25 (f := .meth "Network" "__len__") rfl),
    me_Network_c__check := He.meth_ok (c.t.d.fact 26 (f := .meth "Network" "_check") rfl),
    me_Network_c_damage := He.meth_ok (c.t.d.fact 27 (f := .meth "Network" "damage") rfl),
    me_Network_c_double := He.meth_ok (c.t.d.fact 28 (f := .meth "Network" "double") rfl),
    me_Network_c_is_damaged := He.meth_ok (c.t.d.fact 29 (f := .meth "Network" "is_damaged") rfl),
    me_Network_c_lose := He.meth_ok (c.t.d.fact 30 (f := .meth "Network" "lose") rfl),
    me_Network_c_packet := He.meth_ok (c.t.d.fact 31 (f := .meth "Network" "packet") rfl),
    me_Network_c_post := He.meth_ok (c.t.d.fact 32 (f := .meth "Network" "post") rfl),
    me_Network_c_take := He.meth_ok (c.t.d.fact 33 (f := .meth "Network" "take") rfl),
    mk_Network := He.mkr_ok (c.t.d.fact 34 (f := .mkr "Network") rfl),
    f__damaged := (fldOk_cons (He.cls_ok (c.t.d.fact 23 (f := .cls "Network") rfl)) (He.noat_ok (c.t.d.fact 35 (f := .noat "Network" "_damaged") rfl)) fldOk_nil),
    f__packets := (fldOk_cons (He.cls_ok (c.t.d.fact 23 (f := .cls "Network") rfl)) (He.noat_ok (c.t.d.fact 36 (f := .noat "Network" "_packets") rfl)) fldOk_nil),
    d_Network_c___init__ := c.t.d.def_ 0 (d := dd_Network_c___init__) rfl,
    d__law_cell := c.t.d.def_ 1 (d := dd__law_cell) rfl,
    d__law_draws := c.t.d.def_ 2 (d := dd__law_draws) rfl,
    d__law_block := c.t.d.def_ 3 (d := dd__law_block) rfl,
    d_Network_c_post := c.t.d.def_ 4 (d := dd_Network_c_post) rfl,
    d_Network_c___len__ := c.t.d.def_ 5 (d := dd_Network_c___len__) rfl,
    d_Network_c___iter__ := c.t.d.def_ 6 (d := dd_Network_c___iter__) rfl,
    d_Network_c__check := c.t.d.def_ 7 (d := dd_Network_c__check) rfl,
    d_Network_c_packet := c.t.d.def_ 8 (d := dd_Network_c_packet) rfl,
    d_Network_c_is_damaged := c.t.d.def_ 9 (d := dd_Network_c_is_damaged) rfl,
    d_Network_c_take := c.t.d.def_ 10 (d := dd_Network_c_take) rfl,
    d_Network_c_lose := c.t.d.def_ 11 (d := dd_Network_c_lose) rfl,
    d_Network_c_double := c.t.d.def_ 12 (d := dd_Network_c_double) rfl,
    d_Network_c_damage := c.t.d.def_ 13 (d := dd_Network_c_damage) rfl,
    d__law_try := c.t.d.def_ 14 (d := dd__law_try) rfl,
    d__law_like := c.t.d.def_ 15 (d := dd__law_like) rfl,
    d__law_damage := c.t.d.def_ 16 (d := dd__law_damage) rfl,
    d_law := c.t.d.def_ 17 (d := dd_law) rfl,
    c_MeridianError := (He.ba hx).1,
    i_BadArgument := (He.ba (He.ba hx).2).1,
    i_Refused := (He.ba (He.ba (He.ba hx).2).2).1,
    e_all := (He.ba (He.ba (He.ba hx).2).2).2 }
end Law

namespace Law
open PySem L2 VL
/-- the cell k of the script -/
def cell (ns : List Int) (k : Nat) : Int := match ns[k]? with
  | some i => if i < 0 then -i else i
  | none => 0
theorem cell_nonneg (ns : List Int) (k : Nat) : 0 ≤ cell ns k := by
  unfold cell
  split
  · split <;> omega
  · exact Int.le_refl _
theorem run_cell (ns : List Int) (k : Nat) : m__law_cell [.lst false (ns.map D.int), .int k] = .ok (.int (cell ns k)) [] := by
  refine fn_is ?_
  by_cases h : k < ns.length
  · have e := fIx_map (e := D.int) (o := false) (List.getElem?_eq_getElem h)
    have h' : (k : Int) < ns.length := by omega
    simp only [Z34, Z40, Z41, Z48, Z49, Z50, Z51, Z52, Z53, Z54, Z55, Z56, Z57, Z64, Z65, Z89, Z90, Z91, Z92, Z93, Z103, Z106, Z146, Z149, slot0, slotS, List.length_cons, List.length_nil, List.length_map, List.map_cons, List.map_nil, List.append_nil, List.replicate_zero, Z163, Z170, Z171, Z180, if_true, decide_true, Nat.reduceAdd, Nat.reduceSub, h', e, cell, List.getElem?_eq_getElem h]
  · have h' : ¬ (k : Int) < ns.length := by omega
    simp only [Z34, Z40, Z41, Z48, Z49, Z50, Z51, Z52, Z53, Z54, Z55, Z56, Z57, Z64, Z65, Z89, Z90, Z92, Z93, Z103, Z106, Z146, Z149, slot0, slotS, List.length_cons, List.length_nil, List.length_map, List.map_cons, List.map_nil, List.append_nil, List.replicate_zero, Z163, Z180, Bool.false_eq_true, if_false, decide_false, Nat.reduceAdd, Nat.reduceSub, h', cell, List.getElem?_eq_none (Nat.le_of_not_lt h)]
/-- what is drawn: many numbers from 0 on, below the limit -/
theorem run_draws (c : Int) (hc : 0 ≤ c) (many : Nat) (hm : many ≤ 1000) (limit : Int) (h1 : 0 < limit) (h2 : limit < 1073741824) :
    ∃ l : List Int, l.length = many ∧ (∀ x ∈ l, 0 ≤ x ∧ x < limit) ∧ m__law_draws [.int c, .int many, .int limit] = .ok (.lst true (l.map D.int)) [] := by
  refine fn_sat (P := fun y => ∃ l : List Int, l.length = many ∧ (∀ x ∈ l, 0 ≤ x ∧ x < limit) ∧ y = .ok (.lst true (l.map D.int)) []) ?_
  have bm := bnd_nat (Nat.le_trans hm (by decide : 1000 ≤ 1000000))
  have md : ∀ i, fMod (.int i) (.int limit) = some (.int (i % limit)) := fun i => Z175 _ _ h1
  have dv : ∀ i, fDiv (.int i) (.int limit) = some (.int (i / limit)) := fun i => Z176 _ _ h1 h2
  have sz : ∀ n : Nat, n < many → n < sizeLine := fun n h => Z194 (by omega)
  have ex : ∀ (l : List Int) (y : Int), (∀ x ∈ l, 0 ≤ x ∧ x < limit) → ∀ x ∈ l ++ [y % limit], 0 ≤ x ∧ x < limit := fun l y h x hx => by
    rcases List.mem_append.mp hx with hx | hx
    · exact h x hx
    · rw [List.mem_singleton.mp hx]; exact ⟨Int.emod_nonneg _ (Int.ne_of_gt h1), Int.emod_lt_of_pos _ h1⟩
  by_cases h : 1000000000000000000 ≤ c
  · have h := decide_eq_true h
    simp only [Z34, Z40, Z41, Z48, Z50, Z51, Z52, Z53, Z54, Z55, Z56, Z57, Z58, Z60, Z64, Z65, Z89, Z90, Z92, Z93, Z94, Z95, Z107, Z108, Z113, Z114, slot0, slotS, List.set_cons_zero, List.set_cons_succ, List.length_cons, List.length_nil, List.map_cons, List.map_nil, List.cons_append, List.nil_append, List.replicate_succ, List.replicate_zero, Z166, Z167, Z171, Z175, Z178, Z179, Z193, if_true, true_and, Int.toNat_natCast, Nat.zero_le, Nat.reduceAdd, Nat.reduceSub, Nat.reduceLT, Int.reduceLT, Int.reduceNeg, h, bm]
    refine for_rg (I := fun i r => ∃ (c' : Int) (l : List Int) (k : Option D), l.length = i ∧ (∀ x ∈ l, 0 ≤ x ∧ x < limit) ∧ r = [some (.int c'), some (.int many), some (.int limit), some (.lst true (l.map D.int)), none, k])
      ⟨c, [], none, rfl, by simp, rfl⟩ ?_ ?_
    · rintro i r hi ⟨c', l, k, hl, hx, rfl⟩
      refine ⟨_, rfl, ?_⟩
      unfold b__law_draws_0
      simp only [Z40, Z41, Z48, Z50, Z51, Z52, Z53, Z54, Z55, Z56, Z57, Z89, Z90, Z94, Z95, Z102, Z105, Z115, appK, isL, ownL?, Z150, slot0, slotS, List.set_cons_zero, List.set_cons_succ, List.length_cons, List.length_nil, List.length_map, Z171, true_and, Int.zero_add, Nat.zero_lt_succ, Nat.reduceAdd, md, dv, hl, sz i hi]
      exact ⟨_, l ++ [c' % limit], _, by simp [hl], ex l c' hx, by rw [List.map_append]; rfl⟩
    · rintro r ⟨c', l, k, hl, hx, rfl⟩
      simp only [Z40, Z42, Z46, Z90, Z91, Z103, Z106, Z146, slot0, slotS, List.set_cons_zero, List.set_cons_succ]
      exact ⟨l, hl, hx, rfl⟩
  · have h := decide_eq_false h
    simp only [Z34, Z40, Z41, Z48, Z50, Z51, Z52, Z53, Z54, Z55, Z56, Z57, Z58, Z60, Z64, Z65, Z89, Z90, Z92, Z93, Z94, Z95, Z107, Z108, Z113, Z114, slot0, slotS, List.set_cons_zero, List.set_cons_succ, List.length_cons, List.length_nil, List.map_cons, List.map_nil, List.cons_append, List.nil_append, List.replicate_succ, List.replicate_zero, Z166, Z167, Z171, Z175, Z178, Z179, Z193, Bool.false_eq_true, if_false, true_and, Int.toNat_natCast, Nat.zero_le, Nat.reduceAdd, Nat.reduceSub, Nat.reduceLT, Int.reduceLT, Int.reduceNeg, h, bm]
    refine for_rg (I := fun i r => ∃ (m : Int) (l : List Int) (k : Option D), l.length = i ∧ (∀ x ∈ l, 0 ≤ x ∧ x < limit) ∧ r = [some (.int c), some (.int many), some (.int limit), some (.lst true (l.map D.int)), some (.int m), k])
      ⟨_, [], none, rfl, by simp, rfl⟩ ?_ ?_
    · rintro i r hi ⟨m, l, k, hl, hx, rfl⟩
      refine ⟨_, rfl, ?_⟩
      unfold b__law_draws_1
      simp only [Z34, Z40, Z41, Z48, Z50, Z51, Z52, Z53, Z54, Z55, Z56, Z57, Z89, Z90, Z94, Z95, Z102, Z105, Z115, appK, isL, ownL?, Z150, slot0, slotS, List.set_cons_zero, List.set_cons_succ, List.length_cons, List.length_nil, List.length_map, Z167, Z171, Z175, Z176, Z177, Z178, true_and, Int.zero_add, Nat.reduceAdd, Nat.reduceLT, Int.reduceLT, Int.reduceNeg, md, dv, hl, sz i hi]
      exact ⟨_, l ++ [_ % limit], _, by simp [hl], ex l _ hx, by rw [List.map_append]; rfl⟩
    · rintro r ⟨c', l, k, hl, hx, rfl⟩
      simp only [Z40, Z42, Z46, Z90, Z103, Z106, Z146, slot0, slotS, List.set_cons_zero, List.set_cons_succ]
      exact ⟨l, hl, hx, rfl⟩
/-- an item of a written list of numbers -/
theorem pickL {o : Bool} (L : List Int) (i : Int) (h0 : 0 ≤ i) (h : i < L.length) : ∃ y, y ∈ L ∧ fIx (.node o .lst (L.map D.int)) (.int i) = some (.int y) := by
  obtain ⟨n, rfl⟩ : ∃ n : Nat, i = n := ⟨i.toNat, (Int.toNat_of_nonneg h0).symm⟩
  have hn : n < L.length := by omega
  exact ⟨L[n], List.getElem_mem hn, fIx_map (List.getElem?_eq_getElem hn)⟩
def sel3 (a b c i : Int) : Int := if i = 0 then a else if i = 1 then b else c
theorem sel3_ix {o : Bool} (a b c i : Int) (h0 : 0 ≤ i) (h : i < 3) : fIx (.node o .lst [.int a, .int b, .int c]) (.int i) = some (.int (sel3 a b c i)) := by
  have : i = 0 ∨ i = 1 ∨ i = 2 := by omega
  rcases this with rfl | rfl | rfl
  · exact fIx0
  · exact fIx1
  · exact fIx2
theorem md_nn (i : Int) (n : Int) (h : 0 < n) : 0 ≤ i % n ∧ i % n < n := ⟨Int.emod_nonneg _ (Int.ne_of_gt h), Int.emod_lt_of_pos _ h⟩
/-! a def that gives back some of its slots -/
def ansKI (is : List Nat) (P : RF → Prop) : Fl → VS → Prop := fun f r => match outs? r is with
  | some os => (match f with | .rt d => P (.ok d os) | .nx => P (.ok .non os) | _ => False)
  | none => False
def ansXI (is : List Nat) (P : RF → Prop) : String → VS → Prop := fun c r => match outs? r is with
  | some os => P (.ex c os)
  | none => False
theorem fn_satI {is : List Nat} {n : Nat} {b : M Fl} {as : List D} {P : RF → Prop} (h : (b (as.map some ++ List.replicate (n - as.length) none)).sat (ansKI is P) (ansXI is P)) : P (fnM n is b as) := by
  unfold fnM
  cases e : b (as.map some ++ List.replicate (n - as.length) none) with
  | no => rw [e] at h; exact h.elim
  | ex c r =>
    rw [e] at h
    have h : ansXI is P c r := h
    unfold ansXI at h
    dsimp only
    cases e2 : outs? r is with
    | none => rw [e2] at h; exact h.elim
    | some o => rw [e2] at h; exact h
  | ok f r =>
    rw [e] at h
    have h : ansKI is P f r := h
    unfold ansKI at h
    cases e2 : outs? r is with
    | none => rw [e2] at h; exact h.elim
    | some o =>
      rw [e2] at h
      cases f with
      | rt d => dsimp only; rw [e2]; exact h
      | nx => dsimp only; rw [e2]; exact h
      | bk => exact h.elim
      | ct => exact h.elim
theorem fn_isI {is : List Nat} {n : Nat} {b : M Fl} {as : List D} {x : RF} (h : (b (as.map some ++ List.replicate (n - as.length) none)).sat (ansKI is (isR x)) (ansXI is (isR x))) : fnM n is b as = x := fn_satI (P := isR x) h
theorem ans03_nx {P : RF → Prop} {a b c d : D} {r : VS} : ansKI [0, 3] P .nx (some a :: some b :: some c :: some d :: r) = P (.ok .non [a, d]) := nr rfl
theorem ans01_rt {P : RF → Prop} {a b x : D} {r : VS} : ansKI [0, 1] P (.rt x) (some a :: some b :: r) = P (.ok x [a, b]) := nr rfl
theorem ans01_nx {P : RF → Prop} {a b : D} {r : VS} : ansKI [0, 1] P .nx (some a :: some b :: r) = P (.ok .non [a, b]) := nr rfl
/-! the network and the law's rows, as one list -/
abbrev Pk := Int × Int × List Int × Bool
def pD (p : Pk) : D := .tup false [.int p.1, .int p.2.1, .lst false (p.2.2.1.map D.int)]
def gD (p : Pk) : D := .bl p.2.2.2
def netN (o : Bool) (l : List Pk) : D := .node o (.ins "Network" ["_packets", "_damaged"]) [.lst o (l.map pD), .lst o (l.map gD)]
def netD (l : List Pk) : D := netN true l
def roD (o : Bool) (p : Pk) : D := .lst o [.int p.1, .int p.2.1, .lst o (p.2.2.1.map D.int), .bl p.2.2.2]
theorem pD_shr (l : List Pk) : (l.map pD).all D.shr = true := shr_map fun _ _ => rfl
theorem gD_shr (l : List Pk) : (l.map gD).all D.shr = true := shr_map fun _ _ => rfl
theorem pD_frz (p : Pk) : (pD p).frz = pD p := by unfold pD; simp only [Z156, Z154, Z153, Z155, Z157]
theorem frzL_pD (l : List Pk) : D.frzL (l.map pD) = l.map pD := frzL_mapid fun p _ => pD_frz p
theorem frzL_gD (l : List Pk) : D.frzL (l.map gD) = l.map gD := frzL_mapid fun p _ => Z155 _
theorem net_frz (l : List Pk) : (netD l).frz = netN false l := by
  unfold netD netN; simp only [Z156, Z154, Z153, frzL_pD, frzL_gD]
theorem fPk (o : Bool) (l : List Pk) : fFld ["Network"] "_packets" (netN o l) = some (.lst o (l.map pD)) := rfl
theorem fDm (o : Bool) (l : List Pk) : fFld ["Network"] "_damaged" (netN o l) = some (.lst o (l.map gD)) := rfl
theorem run_check (o : Bool) (l : List Pk) (i : Int) : m_Network_c__check [netN o l, .int i] = if 0 ≤ i ∧ i < l.length then .ok .non [] else .ex "BadArgument" [] := by
  refine fn_is ?_
  by_cases h1 : i < 0
  · have h2 : ¬ (0 ≤ i ∧ i < (l.length : Int)) := by omega
    simp only [Z34, Z40, Z41, Z48, Z50, Z51, Z52, Z53, Z54, Z55, Z56, Z57, Z64, Z65, Z69, Z71, Z92, Z93, Z104, Z124, Z147, Z148, Z149, slot0, slotS, List.length_cons, List.length_nil, List.length_map, List.map_cons, List.map_nil, List.append_nil, List.replicate_zero, Z163, Z166, Z180, if_true, if_false, decide_eq_true_eq, decide_true, Nat.reduceAdd, Nat.reduceSub, fPk, h1, h2]
  · by_cases h3 : (l.length : Int) ≤ i
    · have h2 : ¬ (0 ≤ i ∧ i < (l.length : Int)) := by omega
      simp only [Z34, Z40, Z41, Z48, Z50, Z51, Z52, Z53, Z54, Z55, Z56, Z57, Z64, Z65, Z69, Z71, Z92, Z93, Z104, Z124, Z147, Z148, Z149, slot0, slotS, List.length_cons, List.length_nil, List.length_map, List.map_cons, List.map_nil, List.append_nil, List.replicate_zero, Z163, Z166, Z180, Bool.false_eq_true, if_true, if_false, decide_true, decide_false, Nat.reduceAdd, Nat.reduceSub, fPk, h1, h3, h2]
    · have h2 : (0 ≤ i ∧ i < (l.length : Int)) := by omega
      simp only [Z34, Z40, Z41, Z48, Z50, Z51, Z52, Z53, Z54, Z55, Z56, Z57, Z64, Z65, Z69, Z71, Z92, Z93, Z104, Z124, Z147, Z148, Z149, slot0, slotS, List.length_cons, List.length_nil, List.length_map, List.map_cons, List.map_nil, List.append_nil, List.replicate_zero, Z163, Z166, Z180, Bool.false_eq_true, if_true, if_false, decide_false, and_self, Nat.reduceAdd, Nat.reduceSub, fPk, h1, h3, h2]
theorem isC_of_net (l : List Pk) : isC "Network" "_check" (netD l) = true := nr rfl
theorem fP1 (l : List Pk) : fFld ["Network"] "_packets" (netD l) = some (.lst true (l.map pD)) := nr rfl
theorem fD1 (l : List Pk) : fFld ["Network"] "_damaged" (netD l) = some (.lst true (l.map gD)) := nr rfl
theorem chk_ok {o : Bool} {l : List Pk} {i : Nat} (h : i < l.length) : m_Network_c__check [netN o l, .int i] = .ok .non [] := by
  rw [run_check, if_pos (by omega)]
theorem chk_no {o : Bool} {l : List Pk} {i : Int} (h : ¬ (0 ≤ i ∧ i < l.length)) : m_Network_c__check [netN o l, .int i] = .ex "BadArgument" [] := by
  rw [run_check, if_neg h]
def paD (p : Pk) : D := .tup true [.int p.1, .int p.2.1, .lst true (p.2.2.1.map D.int)]
theorem run_packet {l : List Pk} {i : Nat} {p : Pk} (h : l[i]? = some p) : m_Network_c_packet [netD l, .int i] = .ok (paD p) [netD l] := by
  have c := chk_ok (o := false) (List.getElem?_eq_some_iff.mp h).1
  have ix : fIx (.lst true (l.map pD)) (.int (i : Nat)) = some (pD p) := fIx_map (e := pD) h
  have nf := net_frz l
  have fp := fP1 l
  have fn := isC_of_net l
  generalize netD l = N at *
  refine fn_is0 ?_
  simp only [Z35, Z40, Z41, Z49, Z51, Z52, Z54, Z55, Z56, Z57, Z62, Z63, Z83, Z89, Z90, Z94, Z102, Z105, Z124, Z131, Z132, Z133, slot0, slotS, List.length_cons, List.length_nil, List.map_cons, List.map_nil, List.cons_append, List.nil_append, List.replicate_succ, List.replicate_zero, Z153, Z154, Z155, true_and, Nat.reduceAdd, Nat.reduceSub, c, fp, ix, nf, fn]
  unfold pD
  simp only [Z40, Z41, Z43, Z45, Z50, Z53, Z54, Z55, Z56, Z57, Z59, Z61, Z90, Z96, Z97, Z98, Z103, Z106, Z141, Z149, slot0, slotS, List.set_cons_zero, List.set_cons_succ, List.length_cons, List.length_nil, List.all_cons, List.all_nil, Z159, Z160, Z186, Z193, Bool.not_true, Bool.not_false, true_and, Bool.true_and, Bool.and_true, Nat.reduceAdd, Nat.reduceLT, Nat.reduceLeDiff]
  rfl
theorem run_packet_no {l : List Pk} {i : Int} (h : ¬ (0 ≤ i ∧ i < l.length)) : m_Network_c_packet [netD l, .int i] = .ex "BadArgument" [netD l] := by
  have c := chk_no (o := false) h
  have nf := net_frz l
  have fn := isC_of_net l
  generalize netD l = N at *
  refine fn_is0 ?_
  simp only [Z36, Z40, Z41, Z54, Z55, Z56, Z57, Z84, Z89, Z102, Z131, Z132, Z133, Z143, Z149, slot0, slotS, List.length_cons, List.length_nil, List.map_cons, List.map_nil, List.cons_append, List.nil_append, List.replicate_succ, List.replicate_zero, Z153, Z154, Z155, and_self, Nat.reduceAdd, Nat.reduceSub, c, nf, fn]
theorem run_isd {l : List Pk} {i : Nat} {p : Pk} (h : l[i]? = some p) : m_Network_c_is_damaged [netD l, .int i] = .ok (.bl p.2.2.2) [netD l] := by
  have c := chk_ok (o := false) (List.getElem?_eq_some_iff.mp h).1
  have ix : fIx (.lst true (l.map gD)) (.int (i : Nat)) = some (.bl p.2.2.2) := fIx_map (e := gD) h
  have nf := net_frz l
  have fp := fD1 l
  have fn := isC_of_net l
  generalize netD l = N at *
  refine fn_is0 ?_
  simp only [Z35, Z40, Z41, Z49, Z51, Z52, Z54, Z55, Z56, Z57, Z62, Z63, Z83, Z89, Z90, Z102, Z103, Z105, Z106, Z124, Z131, Z132, Z133, Z141, Z149, slot0, slotS, List.length_cons, List.length_nil, List.map_cons, List.map_nil, List.append_nil, List.replicate_zero, Z153, Z154, Z155, Z159, and_self, Nat.reduceAdd, Nat.reduceSub, c, fp, ix, nf, fn]
theorem run_isd_no {l : List Pk} {i : Int} (h : ¬ (0 ≤ i ∧ i < l.length)) : m_Network_c_is_damaged [netD l, .int i] = .ex "BadArgument" [netD l] := by
  have c := chk_no (o := false) h
  have nf := net_frz l
  have fn := isC_of_net l
  generalize netD l = N at *
  refine fn_is0 ?_
  simp only [Z36, Z40, Z41, Z54, Z55, Z56, Z57, Z84, Z89, Z102, Z131, Z132, Z133, Z143, Z149, slot0, slotS, List.length_cons, List.length_nil, List.map_cons, List.map_nil, List.append_nil, List.replicate_zero, Z153, Z154, Z155, and_self, Nat.reduceAdd, Nat.reduceSub, c, nf, fn]
/-! what the network's methods do -/
def netA (l : List Pk) (g : List D) : D := .node true (.ins "Network" ["_packets", "_damaged"]) [.lst true (l.map pD), .lst true g]
theorem plP {l : List Pk} {r : VS} : plF? ["Network"] "_packets" (0, []) (some (netD l) :: r) = some (0, [0]) := nr rfl
theorem plG {l : List Pk} {g : List D} {r : VS} : plF? ["Network"] "_damaged" (0, []) (some (netA l g) :: r) = some (0, [1]) := nr rfl
theorem isP {l : List Pk} {r : VS} : isPL (0, [0]) (some (netD l) :: r) = true := nr rfl
theorem isG {l : List Pk} {g : List D} {r : VS} : isPL (0, [1]) (some (netA l g) :: r) = true := nr rfl
theorem apP {l : List Pk} {r : VS} {p : Pk} {K : D → VS → Prop} {ex : String → VS → Prop} (h : l.length < sizeLine) : (appP (0, [0]) (pD p) (some (netD l) :: r)).sat K ex = K .non (some (netA (l ++ [p]) (l.map gD)) :: r) := by
  rw [appP_ok (d0 := netD l) (ds := l.map pD) rfl rfl (by rw [List.length_map]; exact h)]
  have : ((netD l).putO [0] (.node true .lst (l.map pD ++ [pD p]))) = netA (l ++ [p]) (l.map gD) := by unfold netA; rw [List.map_append]; rfl
  rw [this]; rfl
theorem apG {l : List Pk} {p : Pk} {r : VS} {b : Bool} {K : D → VS → Prop} {ex : String → VS → Prop} (hb : p.2.2.2 = b) (h : l.length < sizeLine) : (appP (0, [1]) (.bl b) (some (netA (l ++ [p]) (l.map gD)) :: r)).sat K ex = K .non (some (netD (l ++ [p])) :: r) := by
  rw [appP_ok (d0 := netA (l ++ [p]) (l.map gD)) (ds := l.map gD) rfl rfl (by rw [List.length_map]; exact h)]
  have : ((netA (l ++ [p]) (l.map gD)).putO [1] (.node true .lst (l.map gD ++ [.bl b]))) = netD (l ++ [p]) := by
    unfold netD netN; rw [← hb, List.map_append (f := gD)]; rfl
  rw [this]; rfl
theorem run_post {l : List Pk} {s t : Int} {blk : List Int} (h : l.length ≤ 1000) : m_Network_c_post [netD l, .int s, .int t, .lst true (blk.map D.int)] = .ok .non [netD (l ++ [(s, t, blk, false)]), .lst true (blk.map D.int)] := by
  have hz : l.length < sizeLine := Z194 (by omega)
  have ep : D.tup false [.int s, .int t, .lst false (blk.map D.int)] = pD (s, t, blk, false) := rfl
  have a2 := fun r K ex => @apG l (s, t, blk, false) r false K ex rfl hz
  refine fn_isI ?_
  simp only [Z27, Z28, Z29, Z30, Z31, Z32, Z33, Z34, Z40, Z41, Z43, Z45, Z50, Z53, Z54, Z55, Z56, Z57, Z59, Z61, Z89, Z90, Z102, Z105, Z149, slot0, slotS, List.length_cons, List.length_nil, List.map_cons, List.map_nil, List.append_nil, List.replicate_zero, List.all_cons, List.all_nil, Z153, Z154, Z155, Z156, Z157, Z159, Z160, Z186, Z193, Bool.not_true, Bool.not_false, Bool.true_and, Bool.and_true, and_self, Nat.reduceAdd, Nat.reduceSub, Nat.reduceLeDiff, plP, isP, ep, apP hz, plG, isG, a2, ans03_nx, Option.isSome_some]
theorem run_take {l : List Pk} {i : Nat} {p : Pk} (h : l[i]? = some p) (hl : l.length ≤ 1000) : m_Network_c_take [netD l, .int i] = .ok (pD p) [netD (l.take i ++ l.drop (i + 1))] := by
  have hi := (List.getElem?_eq_some_iff.mp h).1
  have c := chk_ok (o := false) hi
  have ix : fIx (.lst true (l.map pD)) (.int (i : Nat)) = some (pD p) := fIx_map (e := pD) h
  have nf := net_frz l
  have s1 : fSl (.lst true (l.map pD)) none (some (i : Int)) = some (.lst true ((l.take i).map pD)) := fSl_to (e := pD) (o := true) l i fun _ _ => rfl
  have s2 : fSl (.lst true (l.map pD)) (some ((i : Int) + 1)) none = some (.lst true ((l.drop (i + 1)).map pD)) := fSl_frm (e := pD) (o := true) l (i + 1) fun _ _ => rfl
  have s3 : fSl (.lst true (l.map gD)) none (some (i : Int)) = some (.lst true ((l.take i).map gD)) := fSl_to (e := gD) (o := true) l i fun _ _ => rfl
  have s4 : fSl (.lst true (l.map gD)) (some ((i : Int) + 1)) none = some (.lst true ((l.drop (i + 1)).map gD)) := fSl_frm (e := gD) (o := true) l (i + 1) fun _ _ => rfl
  have a1 : fAdd (.lst true ((l.take i).map pD)) (.lst true ((l.drop (i + 1)).map pD)) = some (.lst true ((l.take i ++ l.drop (i + 1)).map pD)) := by
    rw [List.map_append]; exact fAdd_lst (Z193 (by simp; omega)) (pD_shr _) (pD_shr _)
  have a2 : fAdd (.lst true ((l.take i).map gD)) (.lst true ((l.drop (i + 1)).map gD)) = some (.lst true ((l.take i ++ l.drop (i + 1)).map gD)) := by
    rw [List.map_append]; exact fAdd_lst (Z193 (by simp; omega)) (gD_shr _) (gD_shr _)
  have ps : (pD p).shr = true := rfl
  unfold netN at c
  unfold netD netN
  refine fn_is0 ?_
  simp only [Z34, Z35, Z40, Z41, Z42, Z46, Z48, Z49, Z51, Z52, Z54, Z55, Z56, Z57, Z62, Z63, Z74, Z75, Z76, Z77, Z78, Z79, Z83, Z89, Z90, Z94, Z95, Z102, Z103, Z105, Z106, Z124, Z125, Z126, Z127, Z128, Z129, Z130, Z131, Z132, Z133, Z134, Z141, Z149, slot0, slotS, List.mem_cons, List.not_mem_nil, String.reduceEq, List.set_cons_zero, List.set_cons_succ, List.length_cons, List.length_nil, List.map_cons, List.map_nil, List.cons_append, List.nil_append, List.replicate_succ, List.replicate_zero, List.all_cons, List.all_nil, Z153, Z154, Z155, Z156, Z167, Bool.not_false, if_true, if_false, decide_true, decide_false, Bool.and_true, and_self, or_false, Nat.reduceAdd, Nat.reduceSub, Nat.reduceLT, c, frzL_pD, frzL_gD, ix, ps, s1, s2, a1, s3, s4, a2]
theorem run_take_no {l : List Pk} {i : Int} (h : ¬ (0 ≤ i ∧ i < l.length)) : m_Network_c_take [netD l, .int i] = .ex "BadArgument" [netD l] := by
  have c := chk_no (o := false) h
  have nf := net_frz l
  have fn := isC_of_net l
  generalize netD l = N at *
  refine fn_is0 ?_
  simp only [Z36, Z40, Z41, Z54, Z55, Z56, Z57, Z84, Z89, Z102, Z131, Z132, Z133, Z143, Z149, slot0, slotS, List.length_cons, List.length_nil, List.map_cons, List.map_nil, List.cons_append, List.nil_append, List.replicate_succ, List.replicate_zero, Z153, Z154, Z155, and_self, Nat.reduceAdd, Nat.reduceSub, c, nf, fn]
theorem isC_take (l : List Pk) : isC "Network" "take" (netD l) = true := nr rfl
theorem isC_pac (l : List Pk) : isC "Network" "packet" (netD l) = true := nr rfl
theorem run_lose {l : List Pk} {i : Nat} {p : Pk} (h : l[i]? = some p) (hl : l.length ≤ 1000) : m_Network_c_lose [netD l, .int i] = .ok .non [netD (l.take i ++ l.drop (i + 1))] := by
  have e := run_take h hl
  have fn := isC_take l
  generalize netD l = N at *
  refine fn_is0 ?_
  simp only [Z35, Z40, Z42, Z43, Z45, Z46, Z54, Z55, Z56, Z57, Z102, Z105, Z136, Z137, Z142, Z144, Z149, slot0, slotS, List.set_cons_zero, List.length_cons, List.length_nil, List.map_cons, List.map_nil, List.append_nil, List.replicate_zero, Z159, and_self, Nat.zero_lt_succ, Nat.reduceAdd, Nat.reduceSub, e, fn]
theorem run_lose_no {l : List Pk} {i : Int} (h : ¬ (0 ≤ i ∧ i < l.length)) : m_Network_c_lose [netD l, .int i] = .ex "BadArgument" [netD l] := by
  have e := run_take_no h
  have fn := isC_take l
  generalize netD l = N at *
  refine fn_is0 ?_
  simp only [Z36, Z40, Z42, Z43, Z45, Z46, Z54, Z55, Z56, Z57, Z102, Z136, Z137, Z143, Z145, Z149, slot0, slotS, List.set_cons_zero, List.length_cons, List.length_nil, List.map_cons, List.map_nil, List.append_nil, List.replicate_zero, Z159, and_self, Nat.zero_lt_succ, Nat.reduceAdd, Nat.reduceSub, e, fn]
theorem run_double {l : List Pk} {i : Nat} {p : Pk} (h : l[i]? = some p) (hl : l.length ≤ 1000) : m_Network_c_double [netD l, .int i] = .ok .non [netD (l ++ [p])] := by
  have hz : l.length < sizeLine := Z194 (by omega)
  have e := run_packet h
  have fn := isC_pac l
  have ep : D.tup false [.int p.1, .int p.2.1, .lst false (p.2.2.1.map D.int)] = pD p := rfl
  have ix : fIx (.lst true (l.map gD)) (.int (i : Nat)) = some (.bl p.2.2.2) := fIx_map (e := gD) h
  have fd : fFld ["Network"] "_damaged" (netA (l ++ [p]) (l.map gD)) = some (.lst true (l.map gD)) := rfl
  have a2 := fun r K ex => @apG l p r p.2.2.2 K ex rfl hz
  refine fn_is0 ?_
  unfold paD at e
  simp only [Z27, Z28, Z29, Z30, Z31, Z32, Z33, Z35, Z40, Z41, Z42, Z43, Z44, Z45, Z46, Z49, Z51, Z52, Z54, Z55, Z56, Z57, Z59, Z61, Z62, Z63, Z89, Z90, Z94, Z96, Z97, Z98, Z102, Z105, Z124, Z136, Z137, Z142, Z144, Z149, slot0, slotS, List.set_cons_zero, List.set_cons_succ, List.length_cons, List.length_nil, List.map_cons, List.map_nil, List.cons_append, List.nil_append, List.replicate_succ, List.replicate_zero, List.all_cons, List.all_nil, Z157, Z159, Z160, Z193, Bool.not_true, Bool.not_false, Bool.and_true, and_self, Nat.zero_lt_succ, Nat.reduceAdd, Nat.reduceSub, Nat.reduceLT, Nat.reduceLeDiff, e, fn, plP, isP, ep, pD_frz, apP hz, plG, isG, fd, ix, a2, Option.isSome_some]
theorem run_double_no {l : List Pk} {i : Int} (h : ¬ (0 ≤ i ∧ i < l.length)) : m_Network_c_double [netD l, .int i] = .ex "BadArgument" [netD l] := by
  have e := run_packet_no h
  have fn := isC_pac l
  refine fn_is0 ?_
  simp only [Z36, Z40, Z42, Z43, Z45, Z46, Z54, Z55, Z56, Z57, Z89, Z94, Z136, Z137, Z143, Z145, Z149, slot0, slotS, List.set_cons_zero, List.length_cons, List.length_nil, List.map_cons, List.map_nil, List.cons_append, List.nil_append, List.replicate_succ, List.replicate_zero, Z159, and_self, Nat.zero_lt_succ, Nat.reduceAdd, Nat.reduceSub, e, fn]
/-! damage -/
theorem int?_i (i : Int) : int? (D.int i) = some i := nr rfl
def BadAt (p : Pk) (a d : Int) : Prop := a < 0 ∨ (p.2.2.1.length : Int) ≤ a ∨ d < 1 ∨ 255 < d
def hit (p : Pk) (a : Nat) (b d : Int) : Pk := (p.1, p.2.1, p.2.2.1.set a ((b + d) % 256), true)
theorem isC_dmg (l : List Pk) : isC "Network" "damage" (netD l) = true := nr rfl
theorem run_dmg_no {l : List Pk} {i a d : Int} (h : ¬ (0 ≤ i ∧ i < l.length)) : m_Network_c_damage [netD l, .int i, .int a, .int d] = .ex "BadArgument" [netD l] := by
  have c := chk_no (o := false) h
  have nf := net_frz l
  have fn := isC_of_net l
  generalize netD l = N at *
  refine fn_is0 ?_
  simp only [Z36, Z40, Z41, Z54, Z55, Z56, Z57, Z84, Z89, Z102, Z131, Z132, Z133, Z143, Z149, slot0, slotS, List.length_cons, List.length_nil, List.map_cons, List.map_nil, List.cons_append, List.nil_append, List.replicate_succ, List.replicate_zero, Z153, Z154, Z155, and_self, Nat.reduceAdd, Nat.reduceSub, c, nf, fn]
theorem run_dmg_bad {l : List Pk} {i : Nat} {p : Pk} {a d : Int} (h : l[i]? = some p) (hb : BadAt p a d) : m_Network_c_damage [netD l, .int i, .int a, .int d] = .ex "BadArgument" [netD l] := by
  have c := chk_ok (o := false) (List.getElem?_eq_some_iff.mp h).1
  have nf := net_frz l
  have fn := isC_of_net l
  have fp := isC_pac l
  have e := run_packet h
  unfold paD at e
  generalize netD l = N at *
  refine fn_is0 ?_
  unfold BadAt at hb
  by_cases h1 : a < 0
  · simp only [Z34, Z35, Z40, Z41, Z42, Z43, Z45, Z46, Z48, Z49, Z50, Z51, Z52, Z53, Z54, Z55, Z56, Z57, Z64, Z65, Z69, Z71, Z83, Z89, Z90, Z92, Z93, Z94, Z96, Z97, Z98, Z102, Z104, Z105, Z124, Z131, Z132, Z133, Z136, Z137, Z143, Z144, Z149, slot0, slotS, List.set_cons_zero, List.set_cons_succ, List.length_cons, List.length_nil, List.length_map, List.map_cons, List.map_nil, List.cons_append, List.nil_append, List.replicate_succ, List.replicate_zero, Z153, Z154, Z155, Z159, Z163, Z165, Z166, Z180, if_true, decide_eq_true_eq, decide_true, and_self, Nat.zero_lt_succ, Nat.reduceAdd, Nat.reduceSub, Nat.reduceLT, c, nf, fn, fp, e, h1]
  by_cases h2 : (p.2.2.1.length : Int) ≤ a
  · simp only [Z34, Z35, Z40, Z41, Z42, Z43, Z45, Z46, Z48, Z49, Z50, Z51, Z52, Z53, Z54, Z55, Z56, Z57, Z64, Z65, Z69, Z71, Z83, Z89, Z90, Z92, Z93, Z94, Z96, Z97, Z98, Z102, Z104, Z105, Z124, Z131, Z132, Z133, Z136, Z137, Z143, Z144, Z149, slot0, slotS, List.set_cons_zero, List.set_cons_succ, List.length_cons, List.length_nil, List.length_map, List.map_cons, List.map_nil, List.cons_append, List.nil_append, List.replicate_succ, List.replicate_zero, Z153, Z154, Z155, Z159, Z163, Z165, Z166, Z180, Bool.false_eq_true, if_true, if_false, decide_eq_true_eq, decide_true, decide_false, and_self, Nat.zero_lt_succ, Nat.reduceAdd, Nat.reduceSub, Nat.reduceLT, c, nf, fn, fp, e, h1, h2]
  by_cases h3 : d < 1
  · simp only [Z34, Z35, Z40, Z41, Z42, Z43, Z45, Z46, Z48, Z49, Z50, Z51, Z52, Z53, Z54, Z55, Z56, Z57, Z64, Z65, Z69, Z71, Z83, Z89, Z90, Z92, Z93, Z94, Z96, Z97, Z98, Z102, Z104, Z105, Z124, Z131, Z132, Z133, Z136, Z137, Z143, Z144, Z149, slot0, slotS, List.set_cons_zero, List.set_cons_succ, List.length_cons, List.length_nil, List.length_map, List.map_cons, List.map_nil, List.cons_append, List.nil_append, List.replicate_succ, List.replicate_zero, Z153, Z154, Z155, Z159, Z163, Z165, Z166, Z180, Bool.false_eq_true, if_true, if_false, decide_eq_true_eq, decide_true, decide_false, and_self, Nat.zero_lt_succ, Nat.reduceAdd, Nat.reduceSub, Nat.reduceLT, c, nf, fn, fp, e, h1, h2, h3]
  have h4 : 255 < d := by omega
  simp only [Z34, Z35, Z40, Z41, Z42, Z43, Z45, Z46, Z48, Z49, Z50, Z51, Z52, Z53, Z54, Z55, Z56, Z57, Z64, Z65, Z69, Z71, Z83, Z89, Z90, Z92, Z93, Z94, Z96, Z97, Z98, Z102, Z104, Z105, Z124, Z131, Z132, Z133, Z136, Z137, Z143, Z144, Z149, slot0, slotS, List.set_cons_zero, List.set_cons_succ, List.length_cons, List.length_nil, List.length_map, List.map_cons, List.map_nil, List.cons_append, List.nil_append, List.replicate_succ, List.replicate_zero, Z153, Z154, Z155, Z159, Z163, Z165, Z166, Z180, Bool.false_eq_true, if_true, if_false, decide_true, decide_false, and_self, Nat.zero_lt_succ, Nat.reduceAdd, Nat.reduceSub, Nat.reduceLT, c, nf, fn, fp, e, h1, h2, h3, h4]
theorem run_dmg_ref {l : List Pk} {i : Nat} {p : Pk} {a d : Int} (h : l[i]? = some p) (hb : ¬ BadAt p a d) (hd : p.2.2.2 = true) : m_Network_c_damage [netD l, .int i, .int a, .int d] = .ex "Refused" [netD l] := by
  have c := chk_ok (o := false) (List.getElem?_eq_some_iff.mp h).1
  have nf := net_frz l
  have fn := isC_of_net l
  have fp := isC_pac l
  have e := run_packet h
  have fd := fD1 l
  have ix : fIx (.lst true (l.map gD)) (.int (i : Nat)) = some (.bl p.2.2.2) := fIx_map (e := gD) h
  rw [hd] at ix
  unfold paD at e
  generalize netD l = N at *
  refine fn_is0 ?_
  unfold BadAt at hb
  have h1 : ¬ a < 0 := fun z => hb (.inl z)
  have h2 : ¬ (p.2.2.1.length : Int) ≤ a := fun z => hb (.inr (.inl z))
  have h3 : ¬ d < 1 := fun z => hb (.inr (.inr (.inl z)))
  have h4 : ¬ 255 < d := fun z => hb (.inr (.inr (.inr z)))
  simp only [Z34, Z35, Z40, Z41, Z42, Z43, Z45, Z46, Z48, Z49, Z50, Z51, Z52, Z53, Z54, Z55, Z56, Z57, Z64, Z65, Z69, Z71, Z83, Z89, Z90, Z92, Z93, Z94, Z96, Z97, Z98, Z99, Z102, Z104, Z105, Z124, Z131, Z132, Z133, Z136, Z137, Z143, Z144, Z149, slot0, slotS, List.set_cons_zero, List.set_cons_succ, List.length_cons, List.length_nil, List.length_map, List.map_cons, List.map_nil, List.cons_append, List.nil_append, List.replicate_succ, List.replicate_zero, Z153, Z154, Z155, Z159, Z163, Z165, Z166, Z180, Bool.false_eq_true, if_true, if_false, decide_false, and_self, Nat.zero_lt_succ, Nat.reduceAdd, Nat.reduceSub, Nat.reduceLT, c, nf, fn, fp, e, h1, h2, h3, h4, fd, ix]
theorem lput_p {l : List Pk} {i : Nat} {q : Pk} {r : VS} (h : i < l.length) : lputV (0, [0]) (pD q) (i : Int) (some (netD l) :: r) = some (some (netA (l.set i q) (l.map gD)) :: r) := by
  unfold lputV
  rw [lisP?_of (d0 := netD l) (ds := l.map pD) rfl rfl]
  show (ixN (l.map pD).length (i : Int)).map _ = _
  rw [ixN_nat (by rw [List.length_map]; exact h)]
  have : ((netD l).putO [0] (.node true .lst ((l.map pD).set i (pD q)))) = netA (l.set i q) (l.map gD) := by unfold netA; rw [List.map_set]; rfl
  show some ((some (netD l) :: r).set 0 _) = _
  rw [this]; rfl
theorem lput_g {l : List Pk} {i : Nat} {q : Pk} {b : Bool} {r : VS} (hb : q.2.2.2 = b) (h : i < l.length) : lputV (0, [1]) (.bl b) (i : Int) (some (netA (l.set i q) (l.map gD)) :: r) = some (some (netD (l.set i q)) :: r) := by
  unfold lputV
  rw [lisP?_of (d0 := netA (l.set i q) (l.map gD)) (ds := l.map gD) rfl rfl]
  show (ixN (l.map gD).length (i : Int)).map _ = _
  rw [ixN_nat (by rw [List.length_map]; exact h)]
  have : ((netA (l.set i q) (l.map gD)).putO [1] (.node true .lst ((l.map gD).set i (.bl b)))) = netD (l.set i q) := by
    unfold netD netN; rw [← hb, List.map_set (f := gD)]; rfl
  show some ((some (netA (l.set i q) (l.map gD)) :: r).set 0 _) = _
  rw [this]; rfl
theorem run_dmg_ok {l : List Pk} {i : Nat} {p : Pk} {a : Nat} {b d : Int} (h : l[i]? = some p) (hb : ¬ BadAt p a d) (hd : p.2.2.2 = false) (ha : p.2.2.1[a]? = some b) : m_Network_c_damage [netD l, .int i, .int a, .int d] = .ok .non [netD (l.set i (hit p a b d))] := by
  have hi := (List.getElem?_eq_some_iff.mp h).1
  have c := chk_ok (o := false) hi
  have nf := net_frz l
  have fn := isC_of_net l
  have fp := isC_pac l
  have e := run_packet h
  have fd := fD1 l
  have ix : fIx (.lst true (l.map gD)) (.int (i : Nat)) = some (.bl p.2.2.2) := fIx_map (e := gD) h
  rw [hd] at ix
  have ib : fIx (.lst true (p.2.2.1.map D.int)) (.int (a : Nat)) = some (.int b) := fIx_map (e := D.int) ha
  have ixn : ixN p.2.2.1.length (a : Int) = some a := ixN_nat (List.getElem?_eq_some_iff.mp ha).1
  have es : (p.2.2.1.map D.int).set a (.int ((b + d) % 256)) = (p.2.2.1.set a ((b + d) % 256)).map D.int := by rw [List.map_set]
  have ep : D.tup false [.int p.1, .int p.2.1, .lst false ((p.2.2.1.set a ((b + d) % 256)).map D.int)] = pD (hit p a b d) := rfl
  have l1 := fun r => @lput_p l i (hit p a b d) r hi
  have l2 := fun r => @lput_g l i (hit p a b d) true r rfl hi
  unfold paD at e
  refine fn_is0 ?_
  unfold BadAt at hb
  have h1 : ¬ (a : Int) < 0 := fun z => hb (.inl z)
  have h2 : ¬ (p.2.2.1.length : Int) ≤ a := fun z => hb (.inr (.inl z))
  have h3 : ¬ d < 1 := fun z => hb (.inr (.inr (.inl z)))
  have h4 : ¬ 255 < d := fun z => hb (.inr (.inr (.inr z)))
  simp only [Z3, Z4, Z5, Z6, Z29, Z30, Z31, Z34, Z35, Z40, Z41, Z42, Z43, Z44, Z45, Z46, Z48, Z49, Z50, Z51, Z52, Z53, Z54, Z55, Z56, Z57, Z59, Z61, Z64, Z65, Z69, Z71, Z83, Z89, Z90, Z92, Z93, Z94, Z96, Z97, Z98, Z99, Z100, Z101, Z102, Z104, Z105, isL, ownL?, Z124, Z131, Z132, Z133, Z136, Z137, Z142, Z143, Z144, Z149, slot0, slotS, List.set_cons_zero, List.set_cons_succ, List.length_cons, List.length_nil, List.length_map, List.map_cons, List.map_nil, List.cons_append, List.nil_append, List.replicate_succ, List.replicate_zero, List.all_cons, List.all_nil, Z153, Z154, Z155, Z157, Z159, Z160, Z163, Z165, Z166, Z167, Z175, Z180, Z193, Bool.not_true, Bool.not_false, Bool.false_eq_true, if_true, if_false, decide_false, Bool.and_true, and_self, Nat.zero_lt_succ, Nat.reduceAdd, Nat.reduceSub, Nat.reduceLT, Nat.reduceLeDiff, Int.reduceLT, c, nf, fn, fp, e, h1, h2, h3, h4, fd, ix, ib, ixn, es, Z157, ep, plP, l1, plG, l2, Option.isSome_some, int?_i]
/-! a try -/
def TF : D := .lst true [.bl true, .bl false]
def FT : D := .lst true [.bl false, .bl true]
theorem isC_isd (l : List Pk) : isC "Network" "is_damaged" (netD l) = true := nr rfl
theorem isC_lose (l : List Pk) : isC "Network" "lose" (netD l) = true := nr rfl
theorem isC_dbl (l : List Pk) : isC "Network" "double" (netD l) = true := nr rfl
theorem try_no {l : List Pk} {i a d : Int} (k : Nat) (hk : k < 6) (h : ¬ (0 ≤ i ∧ i < l.length)) : m__law_try [netD l, .int k, .int i, .int a, .int d] = .ok TF [netD l] := by
  have e0 := run_take_no h
  have e1 := run_lose_no h
  have e2 := run_double_no h
  have e3 := run_dmg_no (a := a) (d := d) h
  have e4 := run_packet_no h
  have e5 := run_isd_no h
  have c0 := isC_take l
  have c1 := isC_lose l
  have c2 := isC_dbl l
  have c3 := isC_dmg l
  have c4 := isC_pac l
  have c5 := isC_isd l
  generalize netD l = N at *
  refine fn_is0 ?_
  have : k = 0 ∨ k = 1 ∨ k = 2 ∨ k = 3 ∨ k = 4 ∨ k = 5 := by omega
  rcases this with rfl | rfl | rfl | rfl | rfl | rfl
  · simp only [Z34, Z36, Z40, Z41, Z42, Z43, Z45, Z46, Z48, Z51, Z52, Z54, Z55, Z56, Z57, Z58, Z60, Z64, Z65, Z89, Z90, Z91, Z92, Z93, Z102, Z103, Z106, Z116, Z117, Z118, Z119, Z120, Z121, Z122, Z123, Z136, Z137, Z141, Z143, Z145, Z149, slot0, slotS, List.mem_cons, List.not_mem_nil, String.reduceEq, List.set_cons_zero, List.set_cons_succ, List.length_cons, List.length_nil, List.map_cons, List.map_nil, List.cons_append, List.nil_append, List.replicate_succ, List.replicate_zero, List.all_cons, List.all_nil, Z159, Z182, Z193, Bool.false_eq_true, if_true, if_false, true_and, decide_true, decide_false, Bool.and_true, and_self, or_true, or_false, Int.cast_ofNat_Int, Nat.zero_lt_succ, Nat.reduceAdd, Nat.reduceSub, Nat.reduceLT, Nat.reduceLeDiff, Int.reduceEq, e0, c0]
    rfl
  · simp only [Z34, Z36, Z40, Z41, Z42, Z43, Z45, Z46, Z48, Z51, Z52, Z54, Z55, Z56, Z57, Z58, Z60, Z64, Z65, Z89, Z90, Z91, Z92, Z93, Z102, Z103, Z106, Z116, Z117, Z118, Z119, Z120, Z121, Z122, Z123, Z136, Z137, Z141, Z143, Z145, Z149, slot0, slotS, List.mem_cons, List.not_mem_nil, String.reduceEq, List.set_cons_zero, List.set_cons_succ, List.length_cons, List.length_nil, List.map_cons, List.map_nil, List.cons_append, List.nil_append, List.replicate_succ, List.replicate_zero, List.all_cons, List.all_nil, Z159, Z182, Z193, Bool.false_eq_true, if_true, if_false, true_and, decide_true, decide_false, Bool.and_true, and_self, or_true, or_false, Int.cast_ofNat_Int, Nat.zero_lt_succ, Nat.reduceAdd, Nat.reduceSub, Nat.reduceLT, Nat.reduceLeDiff, Int.reduceEq, e1, c1]
    rfl
  · simp only [Z34, Z36, Z40, Z41, Z42, Z43, Z45, Z46, Z48, Z51, Z52, Z54, Z55, Z56, Z57, Z58, Z60, Z64, Z65, Z89, Z90, Z91, Z92, Z93, Z102, Z103, Z106, Z116, Z117, Z118, Z119, Z120, Z121, Z122, Z123, Z136, Z137, Z141, Z143, Z145, Z149, slot0, slotS, List.mem_cons, List.not_mem_nil, String.reduceEq, List.set_cons_zero, List.set_cons_succ, List.length_cons, List.length_nil, List.map_cons, List.map_nil, List.cons_append, List.nil_append, List.replicate_succ, List.replicate_zero, List.all_cons, List.all_nil, Z159, Z182, Z193, Bool.false_eq_true, if_true, if_false, true_and, decide_true, decide_false, Bool.and_true, and_self, or_true, or_false, Int.cast_ofNat_Int, Nat.zero_lt_succ, Nat.reduceAdd, Nat.reduceSub, Nat.reduceLT, Nat.reduceLeDiff, Int.reduceEq, e2, c2]
    rfl
  · simp only [Z34, Z36, Z40, Z41, Z42, Z43, Z45, Z46, Z48, Z51, Z52, Z54, Z55, Z56, Z57, Z58, Z60, Z64, Z65, Z89, Z90, Z91, Z92, Z93, Z102, Z103, Z106, Z116, Z117, Z118, Z119, Z120, Z121, Z122, Z123, Z136, Z137, Z141, Z143, Z145, Z149, slot0, slotS, List.mem_cons, List.not_mem_nil, String.reduceEq, List.set_cons_zero, List.set_cons_succ, List.length_cons, List.length_nil, List.map_cons, List.map_nil, List.cons_append, List.nil_append, List.replicate_succ, List.replicate_zero, List.all_cons, List.all_nil, Z159, Z182, Z193, Bool.false_eq_true, if_true, if_false, true_and, decide_true, decide_false, Bool.and_true, and_self, or_true, or_false, Int.cast_ofNat_Int, Nat.zero_lt_succ, Nat.reduceAdd, Nat.reduceSub, Nat.reduceLT, Nat.reduceLeDiff, Int.reduceEq, e3, c3]
    rfl
  · simp only [Z34, Z36, Z40, Z41, Z42, Z43, Z45, Z46, Z48, Z51, Z52, Z54, Z55, Z56, Z57, Z58, Z60, Z64, Z65, Z89, Z90, Z91, Z92, Z93, Z102, Z103, Z106, Z116, Z117, Z118, Z119, Z120, Z121, Z122, Z123, Z136, Z137, Z141, Z143, Z145, Z149, slot0, slotS, List.mem_cons, List.not_mem_nil, String.reduceEq, List.set_cons_zero, List.set_cons_succ, List.length_cons, List.length_nil, List.map_cons, List.map_nil, List.cons_append, List.nil_append, List.replicate_succ, List.replicate_zero, List.all_cons, List.all_nil, Z159, Z182, Z193, Bool.false_eq_true, if_true, if_false, true_and, decide_true, decide_false, Bool.and_true, and_self, or_true, or_false, Int.cast_ofNat_Int, Nat.zero_lt_succ, Nat.reduceAdd, Nat.reduceSub, Nat.reduceLT, Nat.reduceLeDiff, Int.reduceEq, e4, c4]
    rfl
  · simp only [Z34, Z36, Z40, Z41, Z42, Z43, Z45, Z46, Z48, Z51, Z52, Z54, Z55, Z56, Z57, Z58, Z60, Z64, Z65, Z89, Z90, Z91, Z92, Z93, Z102, Z103, Z106, Z116, Z117, Z118, Z119, Z120, Z121, Z122, Z123, Z136, Z137, Z141, Z143, Z145, Z149, slot0, slotS, List.mem_cons, List.not_mem_nil, String.reduceEq, List.set_cons_zero, List.set_cons_succ, List.length_cons, List.length_nil, List.map_cons, List.map_nil, List.cons_append, List.nil_append, List.replicate_succ, List.replicate_zero, List.all_cons, List.all_nil, Z159, Z182, Z193, Bool.false_eq_true, if_true, if_false, true_and, decide_true, decide_false, Bool.and_true, and_self, or_true, or_false, Int.cast_ofNat_Int, Nat.zero_lt_succ, Nat.reduceAdd, Nat.reduceSub, Nat.reduceLT, Nat.reduceLeDiff, Int.reduceEq, e5, c5]
    rfl
theorem try_take {l : List Pk} {i : Nat} {p : Pk} (h : l[i]? = some p) (hl : l.length ≤ 1000) : m__law_try [netD l, .int 0, .int i, .int 0, .int 1] = .ok (pD p) [netD (l.take i ++ l.drop (i + 1))] := by
  have e0 := run_take h hl
  have c0 := isC_take l
  generalize netD l = N at *
  refine fn_is0 ?_
  simp only [Z34, Z35, Z40, Z41, Z42, Z43, Z45, Z46, Z48, Z51, Z52, Z54, Z55, Z56, Z57, Z64, Z65, Z89, Z90, Z91, Z92, Z93, Z102, Z103, Z106, Z116, Z118, Z119, Z120, Z121, Z122, Z123, Z136, Z137, Z141, Z144, Z149, slot0, slotS, List.mem_cons, List.not_mem_nil, List.set_cons_zero, List.length_cons, List.length_nil, List.map_cons, List.map_nil, List.cons_append, List.nil_append, List.replicate_succ, List.replicate_zero, List.all_cons, List.all_nil, Z159, Z182, Bool.false_eq_true, if_true, if_false, true_and, decide_true, decide_false, Bool.and_true, and_self, or_false, Nat.zero_lt_succ, Nat.reduceAdd, Nat.reduceSub, Int.reduceEq, e0, c0]
theorem try_lose {l : List Pk} {i : Nat} {p : Pk} (h : l[i]? = some p) (hl : l.length ≤ 1000) : m__law_try [netD l, .int 1, .int i, .int 0, .int 1] = .ok .non [netD (l.take i ++ l.drop (i + 1))] := by
  have e0 := run_lose h hl
  have c0 := isC_lose l
  generalize netD l = N at *
  refine fn_is0 ?_
  simp only [Z34, Z35, Z40, Z41, Z42, Z43, Z45, Z46, Z48, Z51, Z52, Z54, Z55, Z56, Z57, Z64, Z65, Z89, Z90, Z92, Z93, Z102, Z103, Z105, Z106, Z116, Z118, Z119, Z120, Z121, Z122, Z123, Z136, Z137, Z141, Z144, Z149, slot0, slotS, List.mem_cons, List.not_mem_nil, List.set_cons_zero, List.length_cons, List.length_nil, List.map_cons, List.map_nil, List.cons_append, List.nil_append, List.replicate_succ, List.replicate_zero, List.all_cons, List.all_nil, Z159, Z182, Bool.false_eq_true, if_true, if_false, true_and, decide_true, decide_false, Bool.and_true, and_self, or_false, Nat.zero_lt_succ, Nat.reduceAdd, Nat.reduceSub, Int.reduceEq, e0, c0]
theorem try_double {l : List Pk} {i : Nat} {p : Pk} (h : l[i]? = some p) (hl : l.length ≤ 1000) : m__law_try [netD l, .int 2, .int i, .int 0, .int 1] = .ok .non [netD (l ++ [p])] := by
  have e0 := run_double h hl
  have c0 := isC_dbl l
  generalize netD l = N at *
  refine fn_is0 ?_
  simp only [Z34, Z35, Z40, Z41, Z42, Z43, Z45, Z46, Z48, Z51, Z52, Z54, Z55, Z56, Z57, Z64, Z65, Z89, Z90, Z92, Z93, Z102, Z103, Z105, Z106, Z116, Z118, Z119, Z120, Z121, Z122, Z123, Z136, Z137, Z141, Z144, Z149, slot0, slotS, List.mem_cons, List.not_mem_nil, List.set_cons_zero, List.length_cons, List.length_nil, List.map_cons, List.map_nil, List.cons_append, List.nil_append, List.replicate_succ, List.replicate_zero, List.all_cons, List.all_nil, Z159, Z182, Bool.false_eq_true, if_true, if_false, true_and, decide_true, decide_false, Bool.and_true, and_self, or_false, Nat.zero_lt_succ, Nat.reduceAdd, Nat.reduceSub, Int.reduceEq, e0, c0]
theorem try_dmg_bad {l : List Pk} {i : Nat} {p : Pk} {a d : Int} (h : l[i]? = some p) (hb : BadAt p a d) : m__law_try [netD l, .int 3, .int i, .int a, .int d] = .ok TF [netD l] := by
  have e0 := run_dmg_bad h hb
  have c0 := isC_dmg l
  generalize netD l = N at *
  refine fn_is0 ?_
  simp only [Z34, Z36, Z40, Z41, Z42, Z43, Z45, Z46, Z48, Z51, Z52, Z54, Z55, Z56, Z57, Z58, Z60, Z64, Z65, Z89, Z90, Z91, Z92, Z93, Z102, Z103, Z106, Z116, Z117, Z118, Z119, Z120, Z121, Z122, Z123, Z136, Z137, Z141, Z143, Z145, Z149, slot0, slotS, List.mem_cons, List.not_mem_nil, String.reduceEq, List.set_cons_zero, List.set_cons_succ, List.length_cons, List.length_nil, List.map_cons, List.map_nil, List.cons_append, List.nil_append, List.replicate_succ, List.replicate_zero, List.all_cons, List.all_nil, Z159, Z182, Z193, Bool.false_eq_true, if_true, if_false, true_and, decide_true, decide_false, Bool.and_true, and_self, or_true, or_false, Nat.zero_lt_succ, Nat.reduceAdd, Nat.reduceSub, Nat.reduceLT, Nat.reduceLeDiff, Int.reduceEq, e0, c0]
  rfl
theorem try_dmg_ref {l : List Pk} {i : Nat} {p : Pk} {a d : Int} (h : l[i]? = some p) (hb : ¬ BadAt p a d) (hd : p.2.2.2 = true) : m__law_try [netD l, .int 3, .int i, .int a, .int d] = .ok FT [netD l] := by
  have e0 := run_dmg_ref h hb hd
  have c0 := isC_dmg l
  generalize netD l = N at *
  refine fn_is0 ?_
  simp only [Z34, Z36, Z40, Z41, Z42, Z43, Z45, Z46, Z48, Z51, Z52, Z54, Z55, Z56, Z57, Z58, Z60, Z64, Z65, Z89, Z90, Z91, Z92, Z93, Z102, Z103, Z106, Z116, Z117, Z118, Z119, Z120, Z121, Z122, Z123, Z136, Z137, Z141, Z143, Z145, Z149, slot0, slotS, List.mem_cons, List.not_mem_nil, String.reduceEq, List.set_cons_zero, List.set_cons_succ, List.length_cons, List.length_nil, List.map_cons, List.map_nil, List.cons_append, List.nil_append, List.replicate_succ, List.replicate_zero, List.all_cons, List.all_nil, Z159, Z182, Z193, Bool.false_eq_true, if_true, if_false, true_and, decide_true, decide_false, Bool.and_true, and_self, or_true, or_false, Nat.zero_lt_succ, Nat.reduceAdd, Nat.reduceSub, Nat.reduceLT, Nat.reduceLeDiff, Int.reduceEq, e0, c0]
  rfl
theorem try_dmg_ok {l : List Pk} {i : Nat} {p : Pk} {a : Nat} {b d : Int} (h : l[i]? = some p) (hb : ¬ BadAt p a d) (hd : p.2.2.2 = false) (ha : p.2.2.1[a]? = some b) : m__law_try [netD l, .int 3, .int i, .int a, .int d] = .ok .non [netD (l.set i (hit p a b d))] := by
  have e0 := run_dmg_ok h hb hd ha
  have c0 := isC_dmg l
  generalize netD l = N at *
  refine fn_is0 ?_
  simp only [Z34, Z35, Z40, Z41, Z42, Z43, Z45, Z46, Z48, Z51, Z52, Z54, Z55, Z56, Z57, Z64, Z65, Z89, Z90, Z92, Z93, Z102, Z103, Z105, Z106, Z116, Z118, Z119, Z120, Z121, Z122, Z123, Z136, Z137, Z141, Z144, Z149, slot0, slotS, List.mem_cons, List.not_mem_nil, List.set_cons_zero, List.length_cons, List.length_nil, List.map_cons, List.map_nil, List.cons_append, List.nil_append, List.replicate_succ, List.replicate_zero, List.all_cons, List.all_nil, Z159, Z182, Bool.false_eq_true, if_true, if_false, decide_true, decide_false, Bool.and_true, and_self, or_false, Nat.zero_lt_succ, Nat.reduceAdd, Nat.reduceSub, Int.reduceEq, e0, c0]
/-! the comparison -/
def rwD (o : Bool) (l : List Pk) : D := .lst o (l.map (roD o))
theorem roD_frz (p : Pk) : (roD true p).frz = roD false p := by unfold roD; simp only [Z156, Z154, Z153, Z155, Z157]
theorem rw_frz (l : List Pk) : (rwD true l).frz = rwD false l := by
  unfold rwD; rw [Z156, frzL_map, List.map_map]; congr 1; exact List.map_congr_left fun p _ => roD_frz p
theorem roF_frz (p : Pk) : (roD false p).frz = roD false p := by unfold roD; simp only [Z156, Z154, Z153, Z155, Z157]
theorem frzL_ro (l : List Pk) : D.frzL (l.map (roD false)) = l.map (roD false) := frzL_mapid fun p _ => roF_frz p
theorem okp_pa (p : Pk) : Okp 2 (paD p) := okp_tup (okpL_cons okp_int (okpL_cons okp_int (okpL_cons (okp_lst (okp_map fun _ _ => okp_int)) okpL_nil)))
theorem okp_pD (p : Pk) : Okp 2 (pD p) := okp_tup (okpL_cons okp_int (okpL_cons okp_int (okpL_cons (okp_lst (okp_map fun _ _ => okp_int)) okpL_nil)))
theorem run_len (o : Bool) (l : List Pk) : m_Network_c___len__ [netN o l] = .ok (.int l.length) [] := by
  refine fn_is ?_
  simp only [Z40, Z41, Z50, Z51, Z53, Z54, Z55, Z56, Z57, Z103, Z106, Z124, Z146, Z149, slot0, List.length_cons, List.length_nil, List.length_map, List.map_cons, List.map_nil, List.append_nil, List.replicate_zero, Z180, Nat.reduceAdd, Nat.reduceSub, fPk]
theorem pa_frz (p : Pk) : (paD p).frz = pD p := by unfold paD pD; simp only [Z156, Z154, Z153, Z155, Z157]
theorem ne_all (l : List Pk) : fNe (.lst true (l.map paD)) (.lst true (l.map pD)) = some (.bl false) :=
  fNe_self (okp_lst (okp_map fun p _ => okp_pa p)) (okp_lst (okp_map fun p _ => okp_pD p)) (by
    rw [Z156, Z156, frzL_map, frzL_map, List.map_map, List.map_map]
    congr 1)
theorem ne_one (p : Pk) : fNe (pD p) (pD p) = some (.bl false) := fNe_self (okp_pD p) (okp_pD p) rfl
theorem ne_TF : fNe TF (.lst true [.bl true, .bl false]) = some (.bl false) := by
  unfold TF fNe eqPy
  simp [D.py, D.pyL, SeqAt.shaped, PyData.canLay0, PyData.canLayAll0, PyData.depth, PyData.depthAll, PyData.eqv, PyData.eqvAll]
theorem own_pk (o : Bool) (l : List Pk) (r : VS) : ownItems "Network" "_packets" 0 (some (netN o l) :: r) = some (l.map pD) := by
  show (if (l.map pD).all D.shr = true then some (l.map pD) else none) = _
  rw [if_pos (pD_shr l)]
theorem isC_len (l : List Pk) : isC "Network" "__len__" (netD l) = true := nr rfl
theorem fLen_rw (o : Bool) (l : List Pk) : fLen [rwD o l] = some (.int l.length) := by unfold rwD; rw [Z180, List.length_map]
theorem like_kinds {l : List Pk} {i : Int} (h : ¬ (0 ≤ i ∧ i < l.length)) {x2 x4 x5 : Option D} {ok : Fl → VS → Prop} {ex : String → VS → Prop} {x6 x7 x8 x9 : Option D}
    (hk : ∀ x, ok .nx [some (netD l), some (rwD true l), x2, some (.int i), x4, x, x6, x7, x8, x9]) :
    (b__law_like_4 [some (netD l), some (rwD true l), x2, some (.int i), x4, x5, x6, x7, x8, x9]).sat ok ex := by
  unfold b__law_like_4
  simp only [Z34, Z107, Z108, Z113, Z114, true_and, Int.reduceToNat, show bnd 6 = true from by decide]
  refine for_rg (I := fun _ r => ∃ x, r = [some (netD l), some (rwD true l), x2, some (.int i), x4, x, x6, x7, x8, x9]) ⟨_, rfl⟩ ?_ ?_
  · rintro k r hk' ⟨x, rfl⟩
    have hk' : k < 6 := hk'
    refine ⟨_, rfl, ?_⟩
    have e := try_no (l := l) (a := 0) (d := 1) k hk' h
    unfold b__law_like_3
    simp only [Z34, Z35, Z40, Z42, Z43, Z45, Z46, Z48, Z51, Z52, Z54, Z55, Z56, Z57, Z58, Z60, Z64, Z65, Z92, Z93, Z103, Z106, Z135, Z136, Z144, Z150, Z151, slot0, slotS, List.set_cons_zero, List.set_cons_succ, List.length_cons, List.length_nil, Z159, Z193, Bool.false_eq_true, if_false, true_and, Int.zero_add, Nat.zero_lt_succ, Nat.reduceAdd, Nat.reduceLeDiff, Int.zero_add, e, ne_TF]
    exact ⟨_, rfl⟩
  · rintro r ⟨x, rfl⟩
    exact hk x
theorem run_like (l : List Pk) (hl : l.length ≤ 1000) (hb : ∀ p ∈ l, p.2.2.1.length ≤ 100) : m__law_like [netD l, rwD true l] = .ok (.bl true) [netD l, rwD true l] := by
  have e0 := run_len false l
  have nf := net_frz l
  have rf := rw_frz l
  have ic := isC_len l
  have fl := fLen_rw true l
  have bl := bnd_nat (n := l.length) (by omega)
  have lz : ((l.length : Nat) : Int) < 9223372036854775808 := by omega
  have ne := ne_all l
  refine fn_isI ?_
  simp only [Z13, Z14, Z15, Z16, Z17, Z18, Z21, Z22, Z26, Z34, Z35, Z40, Z41, Z48, Z50, Z51, Z52, Z53, Z54, Z55, Z56, Z57, Z64, Z65, Z89, Z90, Z91, Z92, Z93, Z103, Z106, Z107, Z108, Z109, Z110, Z113, Z114, slot0, slotS, List.length_cons, List.length_nil, List.map_cons, List.map_nil, List.cons_append, List.nil_append, List.replicate_succ, List.replicate_zero, Z183, Bool.not_true, Bool.false_eq_true, if_false, true_and, decide_true, Int.toNat_natCast, Nat.reduceAdd, Nat.reduceSub, nf, rf, ic, e0, lenR_nat, lz, fl, own_pk]
  refine comp_map (e := pD) (f := paD) (fun p hp => ⟨_, by unfold pD; rfl, ?_⟩) (Z193 (by omega)) ?_
  · unfold e__law_like_0
    simp only [Z40, Z41, Z43, Z45, Z50, Z53, Z54, Z55, Z56, Z57, Z59, Z61, slot0, slotS, List.set_cons_zero, List.set_cons_succ, List.length_cons, List.length_nil, List.all_cons, List.all_nil, Z159, Z160, hide, List.foldl_cons, List.foldl_nil, Z186, Z193, Bool.not_true, Bool.not_false, true_and, and_true, Bool.true_and, Bool.and_true, Nat.reduceAdd, Nat.reduceLeDiff]
    unfold paD
    rfl
  · simp only [Z40, Z43, Z45, Z52, Z109, Z110, Z111, Z112, slot0, Z152, slotS, List.set_cons_zero, List.set_cons_succ, Z160, hide, unhide, List.foldl_cons, List.foldl_nil, Bool.not_false, rwD, frzL_ro]
    refine comp_map (e := roD false) (f := pD) (fun p hp => ⟨_, rfl, ?_⟩) (Z193 (by omega)) ?_
    · unfold e__law_like_1 roD
      simp only [Z34, Z40, Z41, Z49, Z51, Z52, Z54, Z55, Z56, Z57, Z59, Z61, Z62, Z63, slot0, slotS, List.set_cons_zero, List.set_cons_succ, List.length_cons, List.length_nil, List.all_cons, List.all_nil, Z159, Z160, hide, List.foldl_cons, List.foldl_nil, fIx0, fIx1, fIx2, Z193, Bool.not_true, Bool.not_false, true_and, and_true, Bool.and_true, Nat.reduceAdd, Nat.reduceLeDiff]
      unfold pD
      rfl
    · have ef : D.lst true (l.map (roD true)) = rwD true l := rfl
      simp only [Z40, Z51, Z65, Z152, slotS, List.set_cons_zero, List.set_cons_succ, hide, unhide, List.foldl_cons, List.foldl_nil, Bool.false_eq_true, if_false, true_and, ne, ef, fl, bl]
      refine for_rg (I := fun _ r => ∃ x2 x3 x4 x5 x6 x7 x8 x9 : Option D, r = [some (netD l), some (rwD true l), x2, x3, x4, x5, x6, x7, x8, x9]) ⟨_, _, _, _, _, _, _, _, rfl⟩ ?_ ?_
      · rintro i r hi ⟨x2, x3, x4, x5, x6, x7, x8, x9, rfl⟩
        refine ⟨_, rfl, ?_⟩
        have hp := List.getElem?_eq_getElem hi
        have bp := hb _ (List.mem_of_getElem? hp)
        generalize l[i] = p at hp bp
        have bz : (p.2.2.1.map D.int).length < sizeLine := by rw [List.length_map]; exact Z194 (by omega)
        have e1 := run_packet hp
        have e2 := run_isd hp
        have ix : fIx (rwD true l) (.int (i : Nat)) = some (roD true p) := fIx_map (e := roD true) hp
        have ixf : fIx (rwD false l) (.int (i : Nat)) = some (roD false p) := fIx_map (e := roD false) hp
        have c1 := isC_pac l
        have c2 := isC_isd l
        have ne1 := ne_one p
        have pf := pa_frz p
        have lt : tyD (pD p) = "tuple" := nr rfl
        have li : noIns (pD p) = true := nr rfl
        have ep : D.tup false [.int p.1, .int p.2.1, .lst false (p.2.2.1.map D.int)] = pD p := rfl
        unfold b__law_like_2
        simp only [Z7, Z8, Z9, Z14, Z15, Z16, Z17, Z27, Z29, Z34, Z35, Z40, Z41, Z42, Z43, Z45, Z46, Z48, Z49, Z51, Z52, Z54, Z55, Z56, Z57, Z59, Z61, Z62, Z63, Z64, Z65, Z66, Z67, Z69, Z71, Z72, Z73, Z89, Z90, Z91, Z92, Z93, Z94, Z95, Z102, Z103, Z106, Z136, Z137, Z144, Z151, slot0, slotS, List.set_cons_zero, List.set_cons_succ, List.length_cons, List.length_nil, List.all_cons, List.all_nil, Z155, Z159, Z160, fIx0, fIx1, fIx2, Z193, Bool.not_true, Bool.not_false, Bool.false_eq_true, if_true, if_false, true_and, Bool.and_true, Int.zero_add, Nat.zero_lt_succ, Nat.reduceAdd, Nat.reduceLT, Nat.reduceLeDiff, Int.zero_add, e1, c1, nf, rf, pf, lt, li, ixf, roD, ep, ne1, show isiB "tuple" "tuple" = true from by decide]
        have pt : ∀ r : VS, plT? (.int 2) (4, []) (some (netD l) :: some (rwD true l) :: some (.int (i : Nat)) :: x3 :: some (paD p) :: r) = some (4, [2]) := fun r => rfl
        have ip : ∀ r : VS, isPL (4, [2]) (some (netD l) :: some (rwD true l) :: some (.int (i : Nat)) :: x3 :: some (paD p) :: r) = true := fun r => rfl
        have ap : ∀ (r : VS) (K : D → VS → Prop) (ex : String → VS → Prop), (appP (4, [2]) (.int 7) (some (netD l) :: some (rwD true l) :: some (.int (i : Nat)) :: x3 :: some (paD p) :: r)).sat K ex = K .non (some (netD l) :: some (rwD true l) :: some (.int (i : Nat)) :: x3 :: some (.tup true [.int p.1, .int p.2.1, .lst true (p.2.2.1.map D.int ++ [.int 7])]) :: r) := fun r K ex => by
          rw [appP_ok (d0 := paD p) (ds := p.2.2.1.map D.int) rfl rfl bz]; rfl
        have i3 : fIx (roD true p) (.int 3) = some (.bl p.2.2.2) := fIx3
        refine ⟨rfl, ?_⟩
        rw [pt, Z40]
        simp only [Z28, Z34, Z35, Z40, Z41, Z42, Z43, Z45, Z46, Z48, Z49, Z51, Z52, Z54, Z55, Z56, Z57, Z64, Z65, Z66, Z67, Z69, Z71, Z72, Z73, Z90, Z91, Z92, Z93, Z103, Z105, Z106, Z136, Z137, Z144, Z150, Z151, slot0, slotS, List.set_cons_zero, List.length_cons, List.length_nil, Z159, Z185, Z190, Z191, Bool.not_true, Bool.false_eq_true, if_true, if_false, true_and, Nat.zero_lt_succ, Nat.reduceAdd, ip, ap, e2, c2, ix, i3, show isiB "bool" "bool" = true from by decide, beq_self_eq_true]
        exact ⟨_, _, _, _, _, _, _, _, rfl⟩
      · rintro r ⟨x2, x3, x4, x5, x6, x7, x8, x9, rfl⟩
        have f1 := fun (i : Int) (h : ¬ (0 ≤ i ∧ i < (l.length : Int))) => @like_kinds l i h
        simp only [Z34, Z40, Z41, Z47, Z48, Z50, Z51, Z52, Z53, Z54, Z55, Z56, Z57, Z58, Z60, Z89, Z90, Z107, Z108, Z111, Z112, slot0, slotS, List.length_cons, List.length_nil, Z153, Z154, Z155, Z167, Z168, Z169, Z193, true_and, Nat.reduceAdd, Nat.reduceLeDiff, Int.reduceNeg, fl]
        refine for_ind (e := D.int) (l := [(l.length : Int), -1 - (l.length : Int), -1, (l.length : Int) + 5]) (I := fun rest r => (∀ i ∈ rest, ¬ (0 ≤ i ∧ i < (l.length : Int))) ∧ ∃ x2 x3 x4 x5 x6 x7 x8 x9 : Option D, r = [some (netD l), some (rwD true l), x2, x3, x4, x5, x6, x7, x8, x9]) ⟨?_, _, _, _, _, _, _, _, _, rfl⟩ ?_ ?_
        · intro i hi
          simp only [List.mem_cons, List.not_mem_nil, or_false] at hi
          rcases hi with rfl | rfl | rfl | rfl <;> omega
        · rintro i rest r ⟨hr, x2, x3, x4, x5, x6, x7, x8, x9, rfl⟩
          refine ⟨_, rfl, ?_⟩
          exact f1 i (hr i List.mem_cons_self) fun x => ⟨fun j hj => hr j (List.mem_cons_of_mem _ hj), _, _, _, _, _, _, _, _, rfl⟩
        · rintro r ⟨-, x2, x3, x4, x5, x6, x7, x8, x9, rfl⟩
          simp only [Z34, Z90, Z103, Z106, Z149, ans01_rt]
/-! the law's damage -/
theorem eq_TF : fEq TF (.lst true [.bl true, .bl false]) = some (.bl true) := by
  unfold TF fEq eqPy
  simp [D.py, D.pyL, SeqAt.shaped, PyData.canLay0, PyData.canLayAll0, PyData.depth, PyData.depthAll, PyData.eqv, PyData.eqvAll]
theorem eq_FT : fEq FT (.lst true [.bl false, .bl true]) = some (.bl true) := by
  unfold FT fEq eqPy
  simp [D.py, D.pyL, SeqAt.shaped, PyData.canLay0, PyData.canLayAll0, PyData.depth, PyData.depthAll, PyData.eqv, PyData.eqvAll]
theorem get_ro {l : List Pk} {i : Nat} {p : Pk} (h : l[i]? = some p) : (rwD true l).getO [i] = some (roD true p) := by
  show (match (l.map (roD true))[i]? with | some d => D.getO d [] | none => none) = _
  rw [List.getElem?_map, h]; rfl
theorem put_ro {l : List Pk} {i : Nat} {p q : Pk} (h : l[i]? = some p) : (rwD true l).putO [i] (roD true q) = rwD true (l.set i q) := by
  show D.node true .lst (match (l.map (roD true))[i]? with | some d => (l.map (roD true)).set i (D.putO d [] (roD true q)) | none => l.map (roD true)) = .node true .lst ((l.set i q).map (roD true))
  rw [List.getElem?_map, h, List.map_set]
  rfl
theorem pl_ro {l : List Pk} {i : Nat} (h : i < l.length) (x : Option D) (r : VS) : plI? (.int i) (1, []) (x :: some (rwD true l) :: r) = some (1, [i]) := by
  show ((ixN (l.map (roD true)).length (i : Int)).bind fun n => if n < (l.map (roD true)).length then some (1, [] ++ [n]) else none) = _
  rw [ixN_nat (by rw [List.length_map]; exact h)]
  show (if i < (l.map (roD true)).length then _ else _) = _
  rw [if_pos (by rw [List.length_map]; exact h)]
  rfl
def rowX (p : Pk) (l : List Int) (m : Bool) : D := .lst true [.int p.1, .int p.2.1, .lst true (l.map D.int), .bl m]
theorem lput_row {p : Pk} {l : List Int} {m : Bool} {a : Nat} {v : Int} {x0 x1 x2 x3 : Option D} {r : VS} (h : a < l.length) : lputV (4, [2]) (.int v) (a : Int) (x0 :: x1 :: x2 :: x3 :: some (rowX p l m) :: r) = some (x0 :: x1 :: x2 :: x3 :: some (rowX p (l.set a v) m) :: r) := by
  unfold lputV
  rw [lisP?_of (d0 := rowX p l m) (ds := l.map D.int) rfl rfl]
  show (ixN (l.map D.int).length (a : Int)).map _ = _
  rw [ixN_nat (by rw [List.length_map]; exact h)]
  have : (rowX p l m).putO [2] (.node true .lst ((l.map D.int).set a (.int v))) = rowX p (l.set a v) m := by unfold rowX; rw [List.map_set]; rfl
  show some ((x0 :: x1 :: x2 :: x3 :: some (rowX p l m) :: r).set 4 (some _)) = _
  rw [this]; rfl
theorem pl_row {p : Pk} {l : List Int} {m : Bool} {x0 x1 x2 x3 : Option D} {r : VS} : plI? (.int 2) (4, []) (x0 :: x1 :: x2 :: x3 :: some (rowX p l m) :: r) = some (4, [2]) := rfl
def GoodL (l : List Pk) : Prop := ∀ p ∈ l, p.2.2.1.length ≤ 100
theorem run_damage {l : List Pk} {i : Nat} {p : Pk} (h : l[i]? = some p) (hb : GoodL l) (c : Int) (hc : 0 ≤ c) : ∃ l', m__law_damage [netD l, rwD true l, .int i, .int c] = .ok (.bl true) [netD l', rwD true l'] ∧ l'.length = l.length ∧ GoodL l' := by
  have bp := hb p (List.mem_of_getElem? h)
  have gO := get_ro h
  have pO := fun q => put_ro (q := q) h
  have pl := @pl_ro l i (List.getElem?_eq_some_iff.mp h).1
  obtain ⟨n, hn⟩ : ∃ n : Nat, p.2.2.1.length = n := ⟨_, rfl⟩
  have m1 : fMod (.int c) (.int ((n : Int) + 2)) = some (.int (c % ((n : Int) + 2))) := Z175 _ _ (by omega)
  obtain ⟨A, hA⟩ : ∃ A, c % ((n : Int) + 2) - 1 = A := ⟨_, rfl⟩
  have md := md_nn c ((n : Int) + 2) (by omega)
  obtain ⟨d, id⟩ : ∃ d : Int, fIx (.lst true [.int (c % 257), .int (1 + c % 255)]) (.int (c / 3 % 2)) = some (.int d) := by
    have : c / 3 % 2 = 0 ∨ c / 3 % 2 = 1 := by omega
    rcases this with e | e <;> rw [e]
    · exact ⟨_, fIx0⟩
    · exact ⟨_, fIx1⟩
  have i2 : fIx (roD true p) (.int 2) = some (.lst true (p.2.2.1.map D.int)) := fIx2
  have i3 : fIx (roD true p) (.int 3) = some (.bl p.2.2.2) := fIx3
  have same : l.set i p = l := List.ext_getElem? fun j => by
    by_cases e : i = j
    · subst e; rw [List.getElem?_set_self (List.getElem?_eq_some_iff.mp h).1, h]
    · rw [List.getElem?_set_ne e]
  have pS := pO p
  rw [same] at pS
  by_cases hB : BadAt p A d
  · refine ⟨l, ?_, rfl, hb⟩
    have t := try_dmg_bad h hB
    generalize netD l = N at *
    generalize hR : roD true p = R at *
    generalize rwD true l = W at *
    refine fn_isI ?_
    simp only [Z0, Z1, Z23, Z24, Z25, Z29, Z40, Z41, slot0, slotS, List.set_cons_zero, List.set_cons_succ, List.length_cons, List.length_nil, List.map_cons, List.map_nil, List.cons_append, List.nil_append, List.replicate_succ, List.replicate_zero, true_and, not_false_eq_true, Nat.reduceAdd, Nat.reduceSub, Nat.reduceLT, Nat.reduceEqDiff, pl, gO, ne_eq, not_false_eq_true]
    unfold b__law_damage_0
    simp only [Z34, Z35, Z40, Z41, Z42, Z43, Z45, Z46, Z48, Z49, Z50, Z51, Z52, Z53, Z54, Z55, Z56, Z57, Z58, Z60, Z62, Z63, Z64, Z65, Z69, Z71, Z89, Z90, Z92, Z93, Z94, Z95, Z103, Z135, Z136, Z144, slot0, slotS, List.set_cons_zero, List.set_cons_succ, List.length_cons, List.length_nil, List.length_map, Z159, Z163, Z165, Z166, Z167, Z168, Z171, Z175, Z176, Z180, Z193, if_true, true_and, decide_eq_true_eq, Nat.zero_lt_succ, Nat.reduceAdd, Nat.reduceLT, Nat.reduceLeDiff, Int.reduceLT, i2, hn, m1, hA, id, t]
    unfold BadAt at hB
    rw [hn] at hB
    by_cases h1 : A < 0
    · simp only [Z40, Z91, Z106, Z149, slot0, slotS, List.set_cons_zero, List.set_cons_succ, if_true, and_self, h1, eq_TF, bkOk, backIt, pS, Option.map_some, ans01_rt, Option.isSome_some]
    by_cases h2 : (n : Int) ≤ A
    · simp only [Z40, Z91, Z106, Z149, slot0, slotS, List.set_cons_zero, List.set_cons_succ, if_true, if_false, and_self, h1, h2, eq_TF, bkOk, backIt, pS, Option.map_some, ans01_rt, Option.isSome_some]
    by_cases h3 : d < 1
    · simp only [Z40, Z91, Z106, Z149, slot0, slotS, List.set_cons_zero, List.set_cons_succ, if_true, if_false, and_self, h1, h2, h3, eq_TF, bkOk, backIt, pS, Option.map_some, ans01_rt, Option.isSome_some]
    have h4 : 255 < d := by omega
    simp only [Z40, Z91, Z106, Z149, slot0, slotS, List.set_cons_zero, List.set_cons_succ, if_true, if_false, and_self, h1, h2, h3, h4, eq_TF, bkOk, backIt, pS, Option.map_some, ans01_rt, Option.isSome_some]
  · have hB' := hB
    unfold BadAt at hB'
    rw [hn] at hB'
    have h1 : ¬ A < 0 := fun z => hB' (.inl z)
    have h2 : ¬ (n : Int) ≤ A := fun z => hB' (.inr (.inl z))
    have h3 : ¬ d < 1 := fun z => hB' (.inr (.inr (.inl z)))
    have h4 : ¬ 255 < d := fun z => hB' (.inr (.inr (.inr z)))
    cases hd : p.2.2.2 with
    | true =>
      refine ⟨l, ?_, rfl, hb⟩
      have t := try_dmg_ref h hB hd
      rw [hd] at i3
      generalize netD l = N at *
      generalize hR : roD true p = R at *
      generalize rwD true l = W at *
      refine fn_isI ?_
      simp only [Z0, Z1, Z23, Z24, Z25, Z29, Z40, Z41, slot0, slotS, List.set_cons_zero, List.set_cons_succ, List.length_cons, List.length_nil, List.map_cons, List.map_nil, List.cons_append, List.nil_append, List.replicate_succ, List.replicate_zero, true_and, not_false_eq_true, Nat.reduceAdd, Nat.reduceSub, Nat.reduceLT, Nat.reduceEqDiff, pl, gO, ne_eq, not_false_eq_true]
      unfold b__law_damage_0
      simp only [Z3, Z34, Z35, Z40, Z41, Z42, Z43, Z45, Z46, Z48, Z49, Z50, Z51, Z52, Z53, Z54, Z55, Z56, Z57, Z58, Z60, Z62, Z63, Z64, Z65, Z69, Z71, Z89, Z90, Z91, Z92, Z93, Z94, Z95, Z99, Z100, Z101, Z103, Z106, isL, ownL?, Z135, Z136, Z144, Z149, slot0, slotS, List.set_cons_zero, List.set_cons_succ, List.length_cons, List.length_nil, List.length_map, Z159, Z163, Z165, Z166, Z167, Z168, Z171, Z175, Z176, Z180, Z186, Z193, Bool.false_eq_true, if_true, if_false, true_and, decide_false, and_self, Nat.zero_lt_succ, Nat.reduceAdd, Nat.reduceLT, Nat.reduceLeDiff, Int.reduceLT, i2, hn, m1, hA, id, t, h1, h2, h3, h4, i3, eq_FT, bkOk, backIt, pS, Option.map_some, ans01_rt, Option.isSome_some]
    | false =>
      obtain ⟨a, rfl⟩ : ∃ a : Nat, A = a := ⟨A.toNat, by omega⟩
      have ha : a < p.2.2.1.length := by omega
      obtain ⟨b, eb⟩ : ∃ b, p.2.2.1[a]? = some b := ⟨_, List.getElem?_eq_getElem ha⟩
      refine ⟨l.set i (hit p a b d), ?_, by rw [List.length_set], fun q hq => ?_⟩
      · have t := try_dmg_ok h hB hd eb
        rw [hd] at i3
        have pH := pO (hit p a b d)
        have ib : fIx (.lst true (p.2.2.1.map D.int)) (.int (a : Nat)) = some (.int b) := fIx_map (e := D.int) eb
        generalize netD l = N at *
        generalize netD (l.set i (hit p a b d)) = N2 at *
        generalize hR : roD true p = R at *
        generalize rwD true l = W at *
        refine fn_isI ?_
        simp only [Z0, Z1, Z23, Z24, Z25, Z29, Z40, Z41, slot0, slotS, List.set_cons_zero, List.set_cons_succ, List.length_cons, List.length_nil, List.map_cons, List.map_nil, List.cons_append, List.nil_append, List.replicate_succ, List.replicate_zero, true_and, not_false_eq_true, Nat.reduceAdd, Nat.reduceSub, Nat.reduceLT, Nat.reduceEqDiff, pl, gO, ne_eq, not_false_eq_true]
        unfold b__law_damage_0
        simp only [Z3, Z34, Z35, Z40, Z41, Z42, Z43, Z45, Z46, Z48, Z49, Z50, Z51, Z52, Z53, Z54, Z55, Z56, Z57, Z58, Z60, Z62, Z63, Z64, Z65, Z69, Z71, Z89, Z90, Z92, Z93, Z94, Z95, Z99, Z100, Z101, Z103, isL, ownL?, Z135, Z136, Z144, slot0, slotS, List.set_cons_zero, List.set_cons_succ, List.length_cons, List.length_nil, List.length_map, Z159, Z163, Z165, Z166, Z167, Z168, Z171, Z175, Z176, Z180, Z186, Z193, Bool.false_eq_true, if_true, if_false, true_and, decide_false, Nat.zero_lt_succ, Nat.reduceAdd, Nat.reduceLT, Nat.reduceLeDiff, Int.reduceLT, i2, hn, m1, hA, id, t, h1, h2, h3, h4, i3, Option.isSome_some]
        subst hR
        have er : D.lst true [.int p.1, .int p.2.1, .lst true (p.2.2.1.map D.int), .bl p.2.2.2] = rowX p p.2.2.1 p.2.2.2 := rfl
        unfold roD
        simp only [Z40, Z41, Z51, Z52, slot0, slotS, List.set_cons_zero, List.set_cons_succ, List.length_cons, List.length_nil, fIx2, true_and, Nat.reduceAdd, show ixN 4 2 = some 2 from by decide, show ixN 4 3 = some 3 from by decide]
        have eh : D.lst true [.int p.1, .int p.2.1, .lst true ((p.2.2.1.set a ((b + d) % 256)).map D.int), .bl true] = roD true (hit p a b d) := rfl
        rw [er]
        simp only [Z2, Z4, Z5, Z6, Z23, Z24, Z25, Z29, Z34, Z40, Z41, Z48, Z51, Z52, Z53, Z54, Z56, Z57, Z89, Z90, Z99, Z100, Z101, Z103, Z106, isL, ownL?, slot0, slotS, List.set_cons_zero, List.set_cons_succ, Z167, Z171, Z175, Z187, Z189, true_and, Int.reduceLT, ib, pl_row, lput_row ha, int?_i, Option.isSome_some]
        unfold rowX
        simp only [Z40, Z149, List.set_cons_zero, List.set_cons_succ, List.length_cons, List.length_nil, and_self, Nat.reduceAdd, show ixN 4 2 = some 2 from by decide, show ixN 4 3 = some 3 from by decide, bkOk, backIt, eh, pH, Option.map_some, ans01_rt, Option.isSome_some]
      · rcases List.mem_or_eq_of_mem_set hq with hq | rfl
        · exact hb q hq
        · show (p.2.2.1.set a _).length ≤ 100
          rw [List.length_set]; exact bp
theorem pyL_of {α : Type} {e : α → D} {f : α → PyData} (h : ∀ x, (e x).py = some (f x)) : ∀ l : List α, D.pyL (l.map e) = some (l.map f)
  | [] => rfl
  | x :: l => by simp [D.pyL, h, pyL_of h l]
def rowP (p : Pk) : PyData := .list [.int p.1, .int p.2.1, .list (p.2.2.1.map PyData.int), .bool p.2.2.2]
theorem ro_py (o : Bool) (p : Pk) : (roD o p).py = some (rowP p) := by
  have := pyL_of (e := D.int) (f := PyData.int) (fun _ => rfl) p.2.2.1
  unfold roD rowP
  simp [D.py, D.pyL, this]
theorem ints_lay : ∀ l : List Int, PyData.canLayAll0 (l.map PyData.int) = true ∧ PyData.depthAll (l.map PyData.int) = 0
  | [] => ⟨rfl, rfl⟩
  | x :: l => by
    obtain ⟨a, b⟩ := ints_lay l
    constructor <;> simp [PyData.canLayAll0, PyData.depthAll, PyData.canLay0, PyData.depth, a, b]
theorem row_lay (p : Pk) : (rowP p).canLay0 = true ∧ (rowP p).depth ≤ 2 := by
  obtain ⟨a, b⟩ := ints_lay p.2.2.1
  unfold rowP
  constructor <;> simp [PyData.canLayAll0, PyData.depthAll, PyData.canLay0, PyData.depth, a, b]
theorem rows_lay : ∀ l : List Pk, PyData.canLayAll0 (l.map rowP) = true ∧ PyData.depthAll (l.map rowP) ≤ 2
  | [] => ⟨rfl, Nat.zero_le _⟩
  | x :: l => by
    obtain ⟨a, b⟩ := rows_lay l
    obtain ⟨c, d⟩ := row_lay x
    constructor
    · simp [PyData.canLayAll0, a, c]
    · simp [PyData.depthAll]; omega
theorem eq_nil (l : List Pk) : fEq (rwD true l) (.lst true []) = some (.bl (decide (l = []))) := by
  obtain ⟨a, b⟩ := rows_lay l
  have e1 : (rwD true l).py = some (.list (l.map rowP)) := by
    have := pyL_of (e := roD true) (f := rowP) (ro_py true) l
    unfold rwD
    simp [D.py, this]
  have e2 : (D.lst true []).py = some (.list []) := rfl
  unfold fEq eqPy
  rw [e1, e2]
  dsimp only
  have s1 : SeqAt.shaped (PyData.list (l.map rowP)) = true := by
    unfold SeqAt.shaped
    simp [PyData.canLay0, PyData.depth, a]
    omega
  have s2 : SeqAt.shaped (PyData.list []) = true := by decide +kernel
  rw [if_pos ⟨s1, s2⟩]
  cases l <;> simp [PyData.eqv, PyData.eqvAll]
theorem run_block (c : Int) (hc : 0 ≤ c) (n : Nat) (hn : n ≤ 4) : ∃ blk : List Int, blk.length ≤ 100 ∧ m__law_block [.int c, .int n] = .ok (.lst true (blk.map D.int)) [] := by
  obtain ⟨l, h1, h2, h3⟩ := run_draws c hc n (by omega) 997 (by decide) (by decide)
  refine ⟨l.map (· % 256), by rw [List.length_map]; omega, fn_is ?_⟩
  simp only [Z34, Z35, Z40, Z43, Z45, Z54, Z55, Z56, Z57, Z82, Z85, Z87, Z103, Z109, Z110, Z111, Z112, slot0, slotS, List.length_cons, List.length_nil, List.map_cons, List.map_nil, List.cons_append, List.nil_append, List.replicate_succ, List.replicate_zero, Z153, Z154, Z155, Z157, Z159, true_and, Nat.reduceAdd, Nat.reduceSub, h3, Z157]
  refine comp_map (e := D.int) (f := fun x => D.int (x % 256)) (fun x hx => ⟨_, rfl, ?_⟩) (Z193 (by omega)) ?_
  · unfold e__law_block_0
    simp only [Z34, Z40, Z41, Z48, Z50, Z51, Z52, Z53, Z54, Z55, Z56, Z57, slot0, slotS, List.set_cons_zero, List.set_cons_succ, hide, List.foldl_cons, List.foldl_nil, Z171, Z175, and_self, Int.reduceLT]
  · have : (l.map fun x => D.int (x % 256)) = (l.map (· % 256)).map D.int := by rw [List.map_map]; rfl
    rw [this]
    simp only [Z106, Z146, Z149, Z152, slotS, List.set_cons_zero, List.set_cons_succ, hide, unhide, List.foldl_cons, List.foldl_nil]
theorem cut_ro {l : List Pk} {i : Nat} (h : i < l.length) (hl : l.length ≤ 1000) (x0 x1 : Option D) (r : VS) : cut2W 2 (i : Int) ((i : Int) + 1) (x0 :: x1 :: some (rwD true l) :: r) = some (x0 :: x1 :: some (rwD true (l.take i ++ l.drop (i + 1))) :: r) := by
  unfold cut2W
  show (some (l.map (roD true))).bind _ = _
  rw [Option.bind_some, if_pos ⟨by omega, by omega, by rw [List.length_map]; omega, by rw [List.length_map]; exact Z193 (by omega)⟩]
  have e : ((i : Int) + 1).toNat = i + 1 := by omega
  rw [Int.toNat_natCast, e, ← List.map_take, ← List.map_drop, ← List.map_append]
  rfl
theorem goodL_cut {l : List Pk} {i j : Nat} (h : GoodL l) : GoodL (l.take i ++ l.drop j) := fun p hp => (List.mem_append.mp hp).elim (fun z => h p (List.mem_of_mem_take z)) fun z => h p (List.mem_of_mem_drop z)
theorem goodL_snoc {l : List Pk} {p : Pk} (h : GoodL l) (hp : p.2.2.1.length ≤ 100) : GoodL (l ++ [p]) := fun q hq => (List.mem_append.mp hq).elim (h q) fun z => by rw [List.mem_singleton.mp z]; exact hp
theorem ap_ro {l : List Pk} {p : Pk} : l.map (roD true) ++ [roD true p] = (l ++ [p]).map (roD true) := by rw [List.map_append]; rfl
theorem back_ok03 {a b c d e f g h o p : Option D} {x y z : D} : RF.back [0, 3] [some 1, none, none, some 6] (.ok z [x, y]) [a, b, c, d, e, f, g, h] = .ok z [a, some x, c, d, e, f, some y, h] := rfl
theorem back_like {a b c d e f g h : Option D} {x y z : D} : RF.back [0, 1] [some 1, some 2] (.ok z [x, y]) [a, b, c, d, e, f, g, h] = .ok z [a, some x, some y, d, e, f, g, h] := rfl
theorem back_dmg {a b c d e f g h : Option D} {x y z : D} : RF.back [0, 1] [some 1, some 2, none, none] (.ok z [x, y]) [a, b, c, d, e, f, g, h] = .ok z [a, some x, some y, d, e, f, g, h] := rfl
theorem law_true (ns : List Int) (h : ns.length ≤ 63) : m_law [.lst false (ns.map D.int)] = .ok (.bl true) [] := by
  obtain ⟨n, en, hn⟩ : ∃ n : Nat, (if (ns.length : Int) < 40 then (ns.length : Int) else 40) = n ∧ n ≤ 40 := by
    by_cases h : (ns.length : Int) < 40
    · exact ⟨ns.length, if_pos h, by omega⟩
    · exact ⟨40, if_neg h, by omega⟩
  have bn := bnd_nat (n := n) (by omega)
  refine fn_is ?_
  have e0 : m_Network_c___init__ [.node true (.ins "Network" []) []] = .ok .non [netD []] := by
    refine fn_is0 ?_
    simp only [Z54, Z58, Z60, Z89, Z90, Z127, Z128, Z129, Z130, Z142, Z149, slot0, List.mem_cons, List.not_mem_nil, String.reduceEq, List.set_cons_zero, List.length_cons, List.length_nil, List.map_cons, List.map_nil, List.append_nil, List.replicate_zero, Z193, if_false, true_and, or_false, Nat.zero_le, Nat.zero_lt_succ, Nat.reduceAdd, Nat.reduceSub, Nat.reduceLT]
    rfl
  have er : D.lst true [] = rwD true [] := rfl
  simp only [Z34, Z35, Z40, Z41, Z50, Z53, Z54, Z55, Z56, Z57, Z58, Z60, Z89, Z90, Z94, Z95, Z107, Z108, Z113, Z114, Z138, Z139, Z140, slot0, List.set_cons_zero, List.set_cons_succ, List.length_cons, List.length_nil, List.length_map, List.map_cons, List.map_nil, List.cons_append, List.nil_append, List.replicate_succ, List.replicate_zero, Z153, Z174, Z180, Z193, true_and, Int.toNat_natCast, Nat.zero_le, Nat.reduceAdd, Nat.reduceSub, Nat.reduceLT, e0, en, bn, er]
  refine for_rg (I := fun i r => ∃ (l : List Pk) (x3 x4 x5 x6 x7 : Option D), l.length ≤ i ∧ GoodL l ∧ r = [some (.lst false (ns.map D.int)), some (netD l), some (rwD true l), x3, x4, x5, x6, x7]) ⟨[], none, none, none, none, none, by simp, (fun p hp => nomatch hp : GoodL []), rfl⟩ ?_ ?_
  · rintro i r hi ⟨l, x3, x4, x5, x6, x7, hl, hg, rfl⟩
    refine ⟨_, rfl, ?_⟩
    have hl3 : l.length ≤ 1000 := by omega
    have c0 := run_cell ns i
    have n0 := cell_nonneg ns i
    generalize cell ns i = C at *
    obtain ⟨k, hk⟩ : ∃ k, C % 7 = k := ⟨_, rfl⟩
    obtain ⟨c, hc⟩ : ∃ c, C / 7 = c := ⟨_, rfl⟩
    have hc0 : 0 ≤ c := by omega
    have en := eq_nil l
    have lk := fun l' (h1 : l'.length ≤ 1000) (h2 : GoodL l') => run_like l' h1 h2
    have done : ∀ (l' : List Pk) (x3 x4 x5 x6 x7 : Option D), l'.length ≤ i + 1 → GoodL l' → ∃ (l : List Pk) (y3 y4 y5 y6 y7 : Option D), l.length ≤ i + 1 ∧ GoodL l ∧ [some (.lst false (ns.map D.int)), some (netD l'), some (rwD true l'), x3, x4, x5, x6, x7] = [some (.lst false (ns.map D.int)), some (netD l), some (rwD true l), y3, y4, y5, y6, y7] := fun l' x3 x4 x5 x6 x7 a b => ⟨l', x3, x4, x5, x6, x7, a, b, rfl⟩
    unfold b_law_0
    by_cases hP : k < 3 ∨ l = []
    · obtain ⟨m, em, hm⟩ : ∃ m : Nat, c % 5 = m ∧ m ≤ 4 := ⟨(c % 5).toNat, by omega, by omega⟩
      obtain ⟨blk, hb, eb⟩ := run_block c hc0 m hm
      have ep := run_post (l := l) (s := c % 9) (t := c / 9 % 9) (blk := blk) hl3
      have l1 : (l ++ [(c % 9, c / 9 % 9, blk, false)]).length ≤ i + 1 := by simp; omega
      have g1 := goodL_snoc (p := (c % 9, c / 9 % 9, blk, false)) hg hb
      have el := lk _ (by omega) g1
      have ic : isC "Network" "post" (netD l) = true := nr rfl
      have ar : D.lst true (l.map (roD true) ++ [.lst true [.int (c % 9), .int (c / 9 % 9), .lst true (blk.map D.int), .bl false]]) = rwD true (l ++ [(c % 9, c / 9 % 9, blk, false)]) := by unfold rwD; rw [List.map_append]; rfl
      have z1 : l.length < sizeLine := Z194 (by omega)
      have z2 : blk.length < sizeLine := Z194 (by omega)
      have hk3 : k < 3 ∨ (¬ k < 3 ∧ l = []) := by
        by_cases h3 : k < 3
        · exact .inl h3
        · exact .inr ⟨h3, hP.resolve_left h3⟩
      rcases hk3 with h3 | ⟨h3, h4⟩
      · simp only [Z34, Z35, Z40, Z41, Z42, Z43, Z45, Z46, Z48, Z50, Z51, Z52, Z53, Z54, Z55, Z56, Z57, Z58, Z60, Z64, Z65, Z66, Z69, Z71, Z82, Z83, Z85, Z86, Z87, Z88, Z89, Z90, Z92, Z93, Z94, Z95, Z102, Z105, Z115, appK, isL, ownL?, Z135, Z136, Z137, slot0, slotS, List.set_cons_zero, List.set_cons_succ, List.length_cons, List.length_nil, List.length_map, Z153, Z154, Z155, Z156, Z157, Z159, Z163, Z171, Z175, Z176, Z180, Z186, Z193, if_true, true_and, decide_true, Int.zero_add, Nat.zero_le, Nat.reduceAdd, Nat.reduceLT, Nat.reduceLeDiff, Int.reduceLT, c0, hk, hc, h3, em, eb, ep, ic, back_ok03, rwD, z1, z2]
        rw [ar, el]
        simp only [Z34, Z35, Z65, Z67, Z91, Z93, Z103, Z106, Z146, Z149, Z150, Z151, Bool.not_true, Bool.false_eq_true, if_false, back_like]
        exact done _ _ _ _ _ _ l1 g1
      · rw [decide_eq_true h4] at en
        unfold rwD at en
        simp only [Z34, Z35, Z40, Z41, Z42, Z43, Z45, Z46, Z48, Z50, Z51, Z52, Z53, Z54, Z55, Z56, Z57, Z58, Z60, Z64, Z65, Z66, Z69, Z71, Z82, Z83, Z85, Z86, Z87, Z88, Z89, Z90, Z92, Z93, Z94, Z95, Z102, Z105, Z115, appK, isL, ownL?, Z135, Z136, Z137, slot0, slotS, List.set_cons_zero, List.set_cons_succ, List.length_cons, List.length_nil, List.length_map, Z153, Z154, Z155, Z156, Z157, Z159, Z163, Z171, Z175, Z176, Z180, Z186, Z193, Bool.false_eq_true, if_true, if_false, true_and, decide_false, Int.zero_add, Nat.zero_le, Nat.reduceAdd, Nat.reduceLT, Nat.reduceLeDiff, Int.reduceLT, c0, hk, hc, h3, rwD, en, em, eb, ep, ic, back_ok03, z1, z2]
        rw [ar, el]
        simp only [Z34, Z35, Z65, Z67, Z91, Z93, Z103, Z106, Z146, Z149, Z150, Z151, Bool.not_true, Bool.false_eq_true, if_false, back_like]
        exact done _ _ _ _ _ _ l1 g1
    · have h3 : ¬ k < 3 := fun z => hP (.inl z)
      have h4 : ¬ l = [] := fun z => hP (.inr z)
      rw [decide_eq_false h4] at en
      have lp : 0 < l.length := List.length_pos_iff.mpr h4
      obtain ⟨j, ej, hj⟩ : ∃ j : Nat, c % (l.length : Int) = j ∧ j < l.length := by
        have := md_nn c (l.length : Int) (by omega)
        exact ⟨(c % (l.length : Int)).toNat, by omega, by omega⟩
      have mj : fMod (.int c) (.int (l.length : Nat)) = some (.int (c % (l.length : Int))) := Z175 _ _ (by omega)
      rw [ej] at mj
      obtain ⟨p, hp⟩ : ∃ p, l[j]? = some p := ⟨_, List.getElem?_eq_getElem hj⟩
      have fl := fLen_rw true l
      have ix : fIx (rwD true l) (.int (j : Nat)) = some (roD true p) := fIx_map (e := roD true) hp
      have i0 : fIx (roD true p) (.int 0) = some (.int p.1) := fIx0
      have i1 : fIx (roD true p) (.int 1) = some (.int p.2.1) := fIx1
      have i2 : fIx (roD true p) (.int 2) = some (.lst true (p.2.2.1.map D.int)) := fIx2
      have i3 : fIx (roD true p) (.int 3) = some (.bl p.2.2.2) := fIx3
      have lc : (l.take j ++ l.drop (j + 1)).length ≤ i + 1 := by simp; omega
      have gc : GoodL (l.take j ++ l.drop (j + 1)) := goodL_cut hg
      have el := lk _ (by omega) gc
      have hK : k = 3 ∨ k = 4 ∨ k = 5 ∨ k = 6 := by omega
      rcases hK with rfl | rfl | rfl | rfl
      · have t := try_take hp hl3
        have ne1 : fNe (pD p) (.tup true [.int p.1, .int p.2.1, .lst true (p.2.2.1.map D.int)]) = some (.bl false) := fNe_self (okp_pD p) (okp_pa p) (by rw [pD_frz]; exact (pa_frz p).symm)
        have cr := cut_ro hj hl3
        simp only [Z10, Z11, Z19, Z20, Z34, Z35, Z40, Z41, Z42, Z43, Z45, Z46, Z48, Z49, Z50, Z51, Z52, Z53, Z54, Z55, Z56, Z57, Z58, Z60, Z64, Z65, Z66, Z68, Z69, Z70, Z71, Z83, Z85, Z86, Z87, Z88, Z89, Z90, Z91, Z92, Z93, Z94, Z95, Z103, Z106, ownL?, Z135, Z136, Z144, Z146, Z149, Z151, slot0, slotS, List.set_cons_zero, List.set_cons_succ, List.length_cons, List.length_nil, Z153, Z154, Z155, Z156, Z157, Z159, Z163, Z171, Z175, Z176, Z182, Z193, Bool.false_eq_true, if_true, if_false, true_and, decide_true, decide_false, Int.zero_add, Nat.zero_le, Nat.reduceAdd, Nat.reduceLT, Nat.reduceLeDiff, Int.reduceLT, Int.reduceEq, c0, hk, hc, en, fl, mj, t, ix, i0, i1, i2, ne1]
        refine ⟨rfl, ?_⟩
        simp only [Z12, Z34, Z35, Z40, Z41, Z42, Z43, Z45, Z46, Z48, Z51, Z52, Z54, Z55, Z56, Z57, Z64, Z65, Z66, Z67, Z68, Z70, Z89, Z90, Z91, Z92, Z93, Z103, Z106, Z135, Z136, Z146, Z149, Z150, Z151, slot0, slotS, List.set_cons_zero, List.set_cons_succ, Z159, Z167, Z176, Z182, Bool.not_true, Bool.false_eq_true, if_false, decide_false, Int.reduceLT, Int.reduceEq, int?_i, cr, el, back_like]
        exact done _ _ _ _ _ _ lc gc
      · have t := try_lose hp hl3
        have cr := cut_ro hj hl3
        simp only [Z10, Z11, Z34, Z35, Z40, Z41, Z42, Z43, Z45, Z46, Z48, Z50, Z51, Z52, Z53, Z54, Z55, Z56, Z57, Z58, Z60, Z64, Z65, Z66, Z68, Z69, Z70, Z71, Z83, Z85, Z86, Z87, Z88, Z89, Z90, Z91, Z92, Z93, Z94, Z95, Z103, Z106, ownL?, Z135, Z136, Z144, Z146, Z149, Z151, slot0, slotS, List.set_cons_zero, List.set_cons_succ, List.length_cons, List.length_nil, Z153, Z154, Z155, Z156, Z157, Z159, Z163, Z171, Z175, Z176, Z182, Z188, Z189, Z193, Bool.not_true, Bool.false_eq_true, if_true, if_false, true_and, decide_true, decide_false, Int.zero_add, Nat.zero_le, Nat.reduceAdd, Nat.reduceLT, Int.reduceLT, Int.reduceEq, c0, hk, hc, en, fl, mj, t]
        refine ⟨rfl, ?_⟩
        simp only [Z12, Z34, Z35, Z40, Z41, Z42, Z43, Z45, Z46, Z48, Z51, Z52, Z54, Z55, Z56, Z57, Z64, Z65, Z66, Z67, Z68, Z70, Z89, Z90, Z91, Z92, Z93, Z103, Z106, Z135, Z136, Z146, Z149, Z150, Z151, slot0, slotS, List.set_cons_zero, List.set_cons_succ, Z159, Z167, Z176, Z182, Bool.not_true, Bool.false_eq_true, if_false, decide_false, Int.reduceLT, Int.reduceEq, int?_i, cr, el, back_like]
        exact done _ _ _ _ _ _ lc gc
      · have t := try_double hp hl3
        have g5 := goodL_snoc hg (hg p (List.mem_of_getElem? hp))
        have el5 := lk (l ++ [p]) (by simp; omega) g5
        have z1 : l.length < sizeLine := Z194 (by omega)
        have ar : D.lst true (l.map (roD true) ++ [.lst true [.int p.1, .int p.2.1, .lst true (p.2.2.1.map D.int), .bl p.2.2.2]]) = rwD true (l ++ [p]) := by unfold rwD; rw [List.map_append]; rfl
        unfold rwD at en fl ix
        simp only [Z10, Z11, Z34, Z35, Z40, Z41, Z42, Z43, Z45, Z46, Z48, Z49, Z50, Z51, Z52, Z53, Z54, Z55, Z56, Z57, Z58, Z60, Z62, Z63, Z64, Z65, Z66, Z68, Z69, Z70, Z71, Z83, Z85, Z86, Z87, Z88, Z89, Z90, Z91, Z92, Z93, Z94, Z95, Z102, Z103, Z105, Z106, Z115, appK, isL, ownL?, Z135, Z136, Z144, Z146, Z149, Z151, slot0, slotS, List.set_cons_zero, List.set_cons_succ, List.length_cons, List.length_nil, List.length_map, Z153, Z154, Z155, Z156, Z157, Z159, Z163, Z171, Z175, Z176, Z182, Z186, Z188, Z189, Z193, Bool.not_true, Bool.false_eq_true, if_true, if_false, true_and, decide_true, decide_false, Int.zero_add, Nat.zero_le, Nat.reduceAdd, Nat.reduceLT, Nat.reduceLeDiff, Int.reduceLT, Int.reduceEq, c0, hk, hc, rwD, en, fl, mj, t, ix, i0, i1, i2, i3, z1]
        rw [ar, el5]
        simp only [Z34, Z35, Z65, Z67, Z91, Z93, Z103, Z106, Z146, Z149, Z150, Z151, Bool.not_true, Bool.false_eq_true, if_false, back_like]
        exact done _ _ _ _ _ _ (by simp; omega) g5
      · obtain ⟨l', t, hl', g'⟩ := run_damage hp hg (c / 3) (by omega)
        have el6 := lk l' (by omega) g'
        simp only [Z10, Z11, Z34, Z35, Z40, Z41, Z42, Z43, Z45, Z46, Z48, Z50, Z51, Z52, Z53, Z54, Z55, Z56, Z57, Z58, Z60, Z64, Z65, Z66, Z67, Z68, Z69, Z70, Z71, Z83, Z85, Z86, Z87, Z88, Z89, Z90, Z91, Z92, Z93, Z94, Z95, Z103, Z106, ownL?, Z135, Z136, Z146, Z149, Z150, Z151, slot0, slotS, List.set_cons_zero, List.set_cons_succ, List.length_cons, List.length_nil, Z153, Z154, Z155, Z156, Z157, Z159, Z163, Z171, Z175, Z176, Z182, Z193, Bool.not_true, Bool.false_eq_true, if_true, if_false, true_and, decide_true, decide_false, Int.zero_add, Nat.zero_le, Nat.reduceAdd, Nat.reduceLT, Int.reduceLT, Int.reduceEq, c0, hk, hc, en, fl, mj, t, back_dmg, el6, back_like]
        exact done _ _ _ _ _ _ (by omega) g'
  · rintro r ⟨l, x3, x4, x5, x6, x7, hl, hg, rfl⟩
    simp only [Z34, Z90, Z103, Z106, Z146, Z149]
end Law

open PySem PySem.W PySem.Calls PyProof.Rows
theorem PySem.Challenge.cw_meridian_k17_network_as_a_list_holds : PySem.Challenge.rw_meridian_k17_network_as_a_list.Holds := by
  w_on; o_law
  refine HandSHeadRun.head_any (r := OpenLaw.row PySem.Challenge.rw_meridian_k17_network_as_a_list) (q := view (OpenLaw.row PySem.Challenge.rw_meridian_k17_network_as_a_list).prog [14]) (H := Law.hk) (ob := Law.ob) (M := 6000) (loose := Law.loose) (d := HandSHeadRun.topDef (OpenLaw.row PySem.Challenge.rw_meridian_k17_network_as_a_list).prog 14) (kwd := []) Law.ob_eq
    (by kernel_rfl) (fun s => by kernel_rfl) Law.run (by kernel_rfl) (by kernel_rfl) (by kernel_rfl) (by rfl) (by first | assumption | decide +kernel) (by decide +kernel) ⟨rfl, rfl, rfl, rfl, rfl, by decide +kernel⟩ ?hw ?hc
  case hw => w_witness2
  case hc =>
    refine VL.walk_law (l := PySem.Challenge.rw_meridian_k17_network_as_a_list) (n := 63) (k := 6) (x := "_law_script") (m := Law.m_law) rfl (by decide) (by kernel_rfl) ⟨rfl, by decide, by decide⟩ (fun ns hl => Law.law_true ns hl) ?F
    intro w mg fa h Y G hmg0
    obtain ⟨K, KX, c⟩ := Y
    have t := Law.txt_of KX G c
    have hmg : mg ("law" : PySem.Str) = some (.ref fa) := by
      have e : (HandSHeadRun.topDef (OpenLaw.row PySem.Challenge.rw_meridian_k17_network_as_a_list).prog 14).name = ("law" : PySem.Str) := by kernel_rfl
      rw [← e]
      exact hmg0
    have e := hmg.symm.trans t.g_law
    cases e
    obtain ⟨fd, F⟩ := t.d_law
    have b := L2.FunD.bindsA (ps := ["_law_script"]) F fun _ _ _ _ _ _ us hl => match us, hl with | [_], _ => rfl
    exact ⟨K, VL.clT Law.cs K, fd, KX, fun s v => b s [v] rfl, fun base _ _ => Law.ok_law t F⟩

