import PyProof.Rows.All
import Wide.All
import OpenK.AllK
import Wide.FinOn
import HandS.ForMost
import HandS.ForExc
import HandS.IsInst
import HandS.DictComp
import HandS.Property
import HandS.Flow
import HandS.Style
import HandS.ExcIs
import HandS.ExcField
import KE.KOpsOwn
import PyProof.InstNe
import HandS.NoneIn
import HandS.Wide
import HandS.Small
import HandS.WordsDict
import HandS.WordsList
import PyProof.StrBlock2
import HandS.Conv
import HandS.Sort
import HandS.SetFor
import HandS.Finally
import KE.KExcSuper
import KE.KExcIs
import HandS.TryMany
import HandS.TryOnly
import PySem.Challenge.RW_fewleft_k27_whole_raised_members
set_option Elab.async false
set_option linter.all false
section
set_option maxRecDepth 100000
set_option maxHeartbeats 4000000
/-! Dm1: data as plain Lean values (Dat), what a value in the heap is worth (Rep), knowledge F and cells C, what an expression evaluates to (Ev, EvN, EvT, EvA). -/
namespace Dm
open PySem L2

/-- a Python value as plain data; v: a scalar, or the very reference to a mutable object -/
inductive Dat where
  | v (x : V)
  | lst (xs : List Dat)
  | tup (xs : List Dat)
  | dK (kvs : List (Key × Dat))
  | ins (C : Str) (fs : List (Str × Dat))
  | scr (ns : List Int)
  | xd (fs : List (Str × Dat))
  | glb (x : Str)
abbrev dI (i : Int) : Dat := .v (.int i)
abbrev dS (s : Str) : Dat := .v (.str s)
abbrev dB (b : Bool) : Dat := .v (.bl b)
abbrev dN : Dat := .v .non
abbrev dR (a : Addr) : Dat := .v (.ref a)
abbrev dLs (ss : List Str) : Dat := .lst (ss.map dS)

/-- the class that the module's name c holds -/
def clOf (K : PySem.W.Frag) (c : Str) : Addr := match PySem.W.nsIn K mainGlobals c with
  | some (some (.ref a)) => a
  | _ => 0
theorem clOf_of {K : PySem.W.Frag} {c : Str} {a : Addr} (h : PySem.W.nsIn K mainGlobals c = some (some (.ref a))) : clOf K c = a := by unfold clOf; rw [h]

def hasCls (K : PySem.W.Frag) (c : Str) : Prop := ∃ a : Addr, PySem.W.nsIn K mainGlobals c = some (some (.ref a))

mutual
def Rep (K : PySem.W.Frag) (F : Hp) : Dat → V → Prop
  | .v x, u => u = x
  | .lst ds, u => ∃ a vs, u = .ref a ∧ F a = some (.lst vs) ∧ Reps K F ds vs
  | .tup ds, u => ∃ a vs, u = .ref a ∧ F a = some (.tup vs) ∧ Reps K F ds vs
  | .dK kvs, u => ∃ a vs, u = .ref a ∧ F a = some (.dK vs) ∧ RepK K F kvs vs
  | .ins C fs, u => hasCls K C ∧ ∃ a dx vs, u = .ref a ∧ F a = some (.ins (clOf K C) dx vs) ∧ RepF K F fs vs
  | .scr ns, u => ∃ a, u = .ref a ∧ SqL K F a (ns.map V.int)
  | .xd fs, u => ∃ a vs, u = .ref a ∧ F a = some (.xd vs) ∧ RepF K F fs vs
  | .glb x, u => u = .ref (clOf K x) ∧ hasCls K x
def Reps (K : PySem.W.Frag) (F : Hp) : List Dat → List V → Prop
  | [], vs => vs = []
  | d :: ds, vs => ∃ v r, vs = v :: r ∧ Rep K F d v ∧ Reps K F ds r
def RepK (K : PySem.W.Frag) (F : Hp) : List (Key × Dat) → List (Key × V) → Prop
  | [], vs => vs = []
  | (k, d) :: ds, vs => ∃ v r, vs = (k, v) :: r ∧ Rep K F d v ∧ RepK K F ds r
def RepF (K : PySem.W.Frag) (F : Hp) : List (Str × Dat) → List (Str × V) → Prop
  | [], vs => vs = []
  | (k, d) :: ds, vs => ∃ v r, vs = (k, v) :: r ∧ Rep K F d v ∧ RepF K F ds r
end

section
variable {K : PySem.W.Frag} {F F' H H' : Hp}
theorem rep_v {x u : V} : Rep K F (.v x) u ↔ u = x := by simp only [Rep]
theorem rep_scr {ns : List Int} {u : V} : Rep K F (.scr ns) u ↔ ∃ a, u = .ref a ∧ SqL K F a (ns.map V.int) := by simp only [Rep]
theorem rep_lst {ds : List Dat} {u : V} : Rep K F (.lst ds) u ↔ ∃ a vs, u = .ref a ∧ F a = some (.lst vs) ∧ Reps K F ds vs := by simp only [Rep]
theorem rep_tup {ds : List Dat} {u : V} : Rep K F (.tup ds) u ↔ ∃ a vs, u = .ref a ∧ F a = some (.tup vs) ∧ Reps K F ds vs := by simp only [Rep]
theorem rep_dK {ds : List (Key × Dat)} {u : V} : Rep K F (.dK ds) u ↔ ∃ a vs, u = .ref a ∧ F a = some (.dK vs) ∧ RepK K F ds vs := by simp only [Rep]
theorem rep_insC {C : Str} {ds : List (Str × Dat)} {u : V} : Rep K F (.ins C ds) u ↔ hasCls K C ∧ ∃ a dx vs, u = .ref a ∧ F a = some (.ins (clOf K C) dx vs) ∧ RepF K F ds vs := by simp only [Rep]
theorem rep_ins {C : Str} {ds : List (Str × Dat)} {u : V} (h : Rep K F (.ins C ds) u) : ∃ a dx vs, u = .ref a ∧ F a = some (.ins (clOf K C) dx vs) ∧ RepF K F ds vs := (rep_insC.1 h).2
theorem rep_xd {ds : List (Str × Dat)} {u : V} : Rep K F (.xd ds) u ↔ ∃ a vs, u = .ref a ∧ F a = some (.xd vs) ∧ RepF K F ds vs := by simp only [Rep]
theorem rep_glb {x : Str} {u : V} : Rep K F (.glb x) u ↔ u = .ref (clOf K x) ∧ hasCls K x := by simp only [Rep]
theorem reps_nil {vs : List V} : Reps K F [] vs ↔ vs = [] := by simp only [Reps]
theorem reps_cons {d : Dat} {ds : List Dat} {vs : List V} : Reps K F (d :: ds) vs ↔ ∃ v r, vs = v :: r ∧ Rep K F d v ∧ Reps K F ds r := by simp only [Reps]
theorem repK_nil {vs : List (Key × V)} : RepK K F [] vs ↔ vs = [] := by simp only [RepK]
theorem repK_cons {k : Key} {d : Dat} {ds : List (Key × Dat)} {vs : List (Key × V)} : RepK K F ((k, d) :: ds) vs ↔ ∃ v r, vs = (k, v) :: r ∧ Rep K F d v ∧ RepK K F ds r := by simp only [RepK]
theorem repF_nil {vs : List (Str × V)} : RepF K F [] vs ↔ vs = [] := by simp only [RepF]
theorem repF_cons {k : Str} {d : Dat} {ds : List (Str × Dat)} {vs : List (Str × V)} : RepF K F ((k, d) :: ds) vs ↔ ∃ v r, vs = (k, v) :: r ∧ Rep K F d v ∧ RepF K F ds r := by simp only [RepF]

/-- knowledge has grown -/
def Kx (F F' : Hp) : Prop := ∀ a o, F a = some o → F' a = some o
theorem Kx.refl (F : Hp) : Kx F F := fun _ _ h => h
theorem Kx.trans {F F1 F2 : Hp} (a : Kx F F1) (b : Kx F1 F2) : Kx F F2 := fun x o h => b x o (a x o h)
theorem Kx.same {F F' : Hp} (e : Kx F F') : Same F F' := e
theorem Kx.sqT {a : Addr} {xs : List V} (e : Kx F F') (h : SqT K F a xs) : SqT K F' a xs := by
  rcases h with (h | ⟨o, h⟩) | h
  · exact .inl (.inl (e _ _ h))
  · exact .inl (.inr ⟨o, e _ _ h⟩)
  · exact .inr h
theorem Kx.sqL {a : Addr} {xs : List V} (e : Kx F F') (h : SqL K F a xs) : SqL K F' a xs := Same.seq e h
mutual
theorem Rep.kx (e : Kx F F') : ∀ {d : Dat} {u : V}, Rep K F d u → Rep K F' d u
  | .v x, u, h => rep_v.2 (rep_v.1 h)
  | .lst ds, u, h => by
    obtain ⟨a, vs, e1, e2, e3⟩ := rep_lst.1 h
    exact rep_lst.2 ⟨a, vs, e1, e _ _ e2, Reps.kx e e3⟩
  | .tup ds, u, h => by
    obtain ⟨a, vs, e1, e2, e3⟩ := rep_tup.1 h
    exact rep_tup.2 ⟨a, vs, e1, e _ _ e2, Reps.kx e e3⟩
  | .dK ds, u, h => by
    obtain ⟨a, vs, e1, e2, e3⟩ := rep_dK.1 h
    exact rep_dK.2 ⟨a, vs, e1, e _ _ e2, RepK.kx e e3⟩
  | .ins C ds, u, h => by
    obtain ⟨hc, a, dx, vs, e1, e2, e3⟩ := rep_insC.1 h
    exact rep_insC.2 ⟨hc, a, dx, vs, e1, e _ _ e2, RepF.kx e e3⟩
  | .scr ns, u, h => by
    obtain ⟨a, e1, e2⟩ := rep_scr.1 h
    exact rep_scr.2 ⟨a, e1, e.sqL e2⟩
  | .xd ds, u, h => by
    obtain ⟨a, vs, e1, e2, e3⟩ := rep_xd.1 h
    exact rep_xd.2 ⟨a, vs, e1, e _ _ e2, RepF.kx e e3⟩
  | .glb x, u, h => rep_glb.2 (rep_glb.1 h)
theorem Reps.kx (e : Kx F F') : ∀ {ds : List Dat} {vs : List V}, Reps K F ds vs → Reps K F' ds vs
  | [], vs, h => reps_nil.2 (reps_nil.1 h)
  | d :: ds, vs, h => by
    obtain ⟨v, r, e1, e2, e3⟩ := reps_cons.1 h
    exact reps_cons.2 ⟨v, r, e1, Rep.kx e e2, Reps.kx e e3⟩
theorem RepK.kx (e : Kx F F') : ∀ {ds : List (Key × Dat)} {vs : List (Key × V)}, RepK K F ds vs → RepK K F' ds vs
  | [], vs, h => repK_nil.2 (repK_nil.1 h)
  | (k, d) :: ds, vs, h => by
    obtain ⟨v, r, e1, e2, e3⟩ := repK_cons.1 h
    exact repK_cons.2 ⟨v, r, e1, Rep.kx e e2, RepK.kx e e3⟩
theorem RepF.kx (e : Kx F F') : ∀ {ds : List (Str × Dat)} {vs : List (Str × V)}, RepF K F ds vs → RepF K F' ds vs
  | [], vs, h => repF_nil.2 (repF_nil.1 h)
  | (k, d) :: ds, vs, h => by
    obtain ⟨v, r, e1, e2, e3⟩ := repF_cons.1 h
    exact repF_cons.2 ⟨v, r, e1, Rep.kx e e2, RepF.kx e e3⟩
end

/-- knowledge holds in the heap; a dict may be locked there -/
def Le (F H : Hp) : Prop := ∀ a o, F a = some o → H a = some o ∨ ∃ od kvs, o = .dK kvs ∧ H a = some (.frz od o)
theorem Le.none (l : Le F H) {a : Addr} (h : H a = none) : F a = none := by
  cases q : F a with
  | none => rfl
  | some o =>
    rcases l a o q with e | ⟨_, _, _, e⟩ <;> rw [h] at e <;> cases e
theorem Le.kx (l : Le F' H) (e : Kx F F') : Le F H := fun a o h => l a o (e a o h)
theorem Le.sqL {a : Addr} {xs : List V} (l : Le F H) (h : SqL K F a xs) : SqL K H a xs := by
  rcases h with (h | ⟨o, h⟩) | h
  · rcases l _ _ h with e | ⟨_, _, z, _⟩
    · exact .inl (.inl e)
    · cases z
  · rcases l _ _ h with e | ⟨_, _, z, _⟩
    · exact .inl (.inr ⟨o, e⟩)
    · cases z
  · exact .inr h
theorem Le.sqT {a : Addr} {xs : List V} (l : Le F H) (h : SqT K F a xs) : SqT K H a xs := by
  rcases h with (h | ⟨o, h⟩) | h
  · rcases l _ _ h with e | ⟨_, _, z, _⟩
    · exact .inl (.inl e)
    · cases z
  · rcases l _ _ h with e | ⟨_, _, z, _⟩
    · exact .inl (.inr ⟨o, e⟩)
    · cases z
  · exact .inr h
theorem Le.dK {a : Addr} {kvs : List (Key × V)} (l : Le F H) (h : F a = some (.dK kvs)) : Rd H a (.dK kvs) := by
  rcases l _ _ h with e | ⟨od, _, _, e⟩
  · exact .inl e
  · exact .inr ⟨od, e⟩
theorem Le.lst {a : Addr} {vs : List V} (l : Le F H) (h : F a = some (.lst vs)) : H a = some (.lst vs) := by
  rcases l _ _ h with e | ⟨_, _, z, _⟩
  · exact e
  · cases z
theorem Le.tup {a : Addr} {vs : List V} (l : Le F H) (h : F a = some (.tup vs)) : H a = some (.tup vs) := by
  rcases l _ _ h with e | ⟨_, _, z, _⟩
  · exact e
  · cases z
theorem Le.ins {a C dx : Addr} {fs : List (Str × V)} (l : Le F H) (h : F a = some (.ins C dx fs)) : H a = some (.ins C dx fs) := by
  rcases l _ _ h with e | ⟨_, _, z, _⟩
  · exact e
  · cases z

/-! ### cells: mutable objects that are owned -/
inductive Cell where
  | lst (ds : List Dat)
  | dK (kvs : List (Key × Dat))
  | ins (C : Str) (fs : List (Str × Dat))
  | xd (fs : List (Str × Dat))
abbrev Cells := List (Addr × Cell)
def CRep (K : PySem.W.Frag) (F : Hp) : Cell → HO → Prop
  | .lst ds, o => ∃ vs, o = .lst vs ∧ Reps K F ds vs
  | .dK ds, o => ∃ vs, o = .dK vs ∧ RepK K F ds vs
  | .ins C ds, o => ∃ dx vs, o = .ins (clOf K C) dx vs ∧ RepF K F ds vs ∧ hasCls K C
  | .xd ds, o => ∃ vs, o = .xd vs ∧ RepF K F ds vs
theorem CRep.kx (e : Kx F F') : ∀ {c : Cell} {o : HO}, CRep K F c o → CRep K F' c o
  | .lst _, _, ⟨vs, h1, h2⟩ => ⟨vs, h1, h2.kx e⟩
  | .dK _, _, ⟨vs, h1, h2⟩ => ⟨vs, h1, h2.kx e⟩
  | .ins _ _, _, ⟨dx, vs, h1, h2, h3⟩ => ⟨dx, vs, h1, h2.kx e, h3⟩
  | .xd _, _, ⟨vs, h1, h2⟩ => ⟨vs, h1, h2.kx e⟩
/-- a cell that is no longer changed, as data -/
def fz : Cell → Dat
  | .lst ds => .lst ds
  | .dK ds => .dK ds
  | .ins C ds => .ins C ds
  | .xd ds => .xd ds
def dom (C : Cells) : List Addr := C.map (·.1)
structure CSat (K : PySem.W.Frag) (C : Cells) (H F : Hp) : Prop where
  nd : (dom C).Nodup
  at_ : ∀ a c, (a, c) ∈ C → F a = none ∧ ∃ o, H a = some o ∧ CRep K F c o

abbrev Gam := List (Option Dat)
structure GSat (K : PySem.W.Frag) (Γ : Gam) (σ : L2.St) (F : Hp) : Prop where
  len : Γ.length = σ.length
  at_ : ∀ (i : Nat) (d : Dat), Γ[i]? = some (some d) → ∃ v, σ[i]? = some (some v) ∧ Rep K F d v
theorem GSat.kx {Γ : Gam} {σ : L2.St} (e : Kx F F') (g : GSat K Γ σ F) : GSat K Γ σ F' :=
  ⟨g.len, fun i d h => let ⟨v, h1, h2⟩ := g.at_ i d h; ⟨v, h1, h2.kx e⟩⟩
theorem GSat.set {Γ : Gam} {σ : L2.St} {i : Nat} {d : Dat} {v : V} (g : GSat K Γ σ F) (h : Rep K F d v) : GSat K (Γ.set i (some d)) (σ.set i (some v)) F := by
  refine ⟨by rw [List.length_set, List.length_set]; exact g.len, fun j e hj => ?_⟩
  by_cases q : i = j
  · subst q
    have hl : i < Γ.length := by
      have := (List.getElem?_eq_some_iff.mp hj).1
      rwa [List.length_set] at this
    rw [List.getElem?_set_self hl] at hj
    cases hj
    exact ⟨v, by rw [List.getElem?_set_self (by rw [← g.len]; exact hl)], h⟩
  · rw [List.getElem?_set_ne q] at hj
    obtain ⟨w, h1, h2⟩ := g.at_ j e hj
    exact ⟨w, by rw [List.getElem?_set_ne q]; exact h1, h2⟩
theorem GSat.setN {Γ : Gam} {σ : L2.St} {i : Nat} (g : GSat K Γ σ F) : GSat K (Γ.set i none) (σ.set i none) F := by
  refine ⟨by rw [List.length_set, List.length_set]; exact g.len, fun j e hj => ?_⟩
  by_cases q : i = j
  · subst q
    have hl : i < Γ.length := by
      have := (List.getElem?_eq_some_iff.mp hj).1
      rwa [List.length_set] at this
    rw [List.getElem?_set_self hl] at hj
    cases hj
  · rw [List.getElem?_set_ne q] at hj
    obtain ⟨w, h1, h2⟩ := g.at_ j e hj
    exact ⟨w, by rw [List.getElem?_set_ne q]; exact h1, h2⟩
/-- less may be said of the slots -/
theorem GSat.less {Γ Γ' : Gam} {σ : L2.St} (g : GSat K Γ σ F) (hl : Γ'.length = Γ.length) (h : ∀ (i : Nat) (d : Dat), Γ'[i]? = some (some d) → Γ[i]? = some (some d)) : GSat K Γ' σ F :=
  ⟨hl.trans g.len, fun i d e => g.at_ i d (h i d e)⟩
def wipeG (Γ : Gam) : List Nat → Gam
  | [] => Γ
  | v :: vs => (wipeG Γ vs).set v none
theorem GSat.wipe {Γ : Gam} {σ : L2.St} (g : GSat K Γ σ F) : ∀ vs : List Nat, GSat K (wipeG Γ vs) (L2.wipe σ vs) F
  | [] => g
  | v :: vs => (g.wipe vs).setN

/-- a known dict may be locked, all else stays -/
def Kept (F H' : Hp) (a : Addr) (o : HO) : Prop := H' a = some o ∨ (F a = some o ∧ ∃ kvs od, o = .dK kvs ∧ H' a = some (.frz od o))
theorem Kept.eq {F H' : Hp} {a : Addr} {o : HO} (k : Kept F H' a o) (h : F a = none) : H' a = some o := by
  rcases k with z | ⟨z, _⟩
  · exact z
  · rw [h] at z; cases z
theorem Kept.ex {F H' : Hp} {a : Addr} {o : HO} (k : Kept F H' a o) : ∃ u, H' a = some u := by
  rcases k with z | ⟨_, _, od, _, z⟩
  · exact ⟨_, z⟩
  · exact ⟨_, z⟩
/-- from (C, F, H) to (C', F', H'): what is not a cell stays -/
structure Post (C : Cells) (F H : Hp) (C' : Cells) (F' H' : Hp) : Prop where
  kx : Kx F F'
  keep : ∀ a o, a ∉ dom C → H a = some o → Kept F H' a o
  nw : ∀ a, a ∉ dom C → (∃ o, H a = some o) → F a = none → F' a = none
  new : ∀ a, a ∈ dom C' → a ∈ dom C ∨ H a = none
  st : ∀ a, H' a = none → H a = none
theorem Post.refl {C : Cells} : Post C F H C F H := ⟨Kx.refl F, fun _ _ _ h => .inl h, fun _ _ _ h => h, fun _ h => .inl h, fun _ h => h⟩
theorem Kx.nn {F F1 : Hp} (k : Kx F F1) {a : Addr} (h : F1 a = none) : F a = none := by
  cases q : F a with
  | none => rfl
  | some o => rw [k a o q] at h; cases h
theorem Post.trans {C C1 C2 : Cells} {F F1 F2 H H1 H2 : Hp} (p : Post C F H C1 F1 H1) (q : Post C1 F1 H1 C2 F2 H2) : Post C F H C2 F2 H2 := by
  have out : ∀ a o, a ∉ dom C → H a = some o → a ∉ dom C1 := fun a o h1 h2 h3 => by
    rcases p.new a h3 with z | z
    · exact h1 z
    · rw [h2] at z; cases z
  have known : ∀ a o, a ∉ dom C → H a = some o → F1 a = some o → F a = some o := fun a o h1 h2 h3 => by
    cases e : F a with
    | none =>
      rw [p.nw a h1 ⟨o, h2⟩ e] at h3
      cases h3
    | some u =>
      rw [p.kx a u e] at h3
      exact h3
  refine ⟨p.kx.trans q.kx, fun a o h1 h2 => ?_, fun a h1 ⟨o, h2⟩ h3 => ?_, fun a h => ?_, fun a h => p.st a (q.st a h)⟩
  · rcases p.keep a o h1 h2 with z | ⟨z, kvs, od, e1, e2⟩
    · rcases q.keep a o (out a o h1 h2) z with y | ⟨y, y2⟩
      · exact .inl y
      · exact .inr ⟨known a o h1 h2 y, y2⟩
    · rcases q.keep a _ (out a o h1 h2) e2 with y | ⟨_, _, _, y, _⟩
      · exact .inr ⟨z, kvs, od, e1, y⟩
      · cases y
  · obtain ⟨u, h4⟩ := (p.keep a o h1 h2).ex
    exact q.nw a (out a o h1 h2) ⟨u, h4⟩ (p.nw a h1 ⟨o, h2⟩ h3)
  · by_cases hc : a ∈ dom C
    · exact .inl hc
    · rcases q.new a h with z | z
      · exact p.new a z
      · exact .inr (p.st a z)

structure Sat (K : PySem.W.Frag) (Γ : Gam) (C : Cells) (σ : L2.St) (H F : Hp) : Prop where
  le : Le F H
  gam : GSat K Γ σ F
  cel : CSat K C H F
end

/-! ### what an expression is worth -/
section
variable (K : PySem.W.Frag)
/-- data d; the cells are C' behind it -/
def Ev (te : TE) (Γ : Gam) (C : Cells) (d : Dat) (C' : Cells) : Prop := ∀ σ H F, Sat K Γ C σ H F → ∀ Q : VK,
  (∀ v H' F', Post C F H C' F' H' → Sat K Γ C' σ H' F' → Rep K F' d v → Q v H') → te σ H Q
/-- a new object that nobody else has, of the content c -/
def EvN (te : TE) (Γ : Gam) (C : Cells) (c : Cell) (C' : Cells) : Prop := ∀ σ H F, Sat K Γ C σ H F → ∀ Q : VK,
  (∀ a H' F', Post C F H ((a, c) :: C') F' H' → Sat K Γ ((a, c) :: C') σ H' F' → H a = none → Q (.ref a) H') → te σ H Q
def EvT (tt : TT) (Γ : Gam) (C : Cells) (b : Bool) (C' : Cells) : Prop := ∀ σ H F, Sat K Γ C σ H F → ∀ Q : Bool → Hp → Prop,
  (∀ H' F', Post C F H C' F' H' → Sat K Γ C' σ H' F' → Q b H') → tt σ H Q
def EvA (ta : TA) (Γ : Gam) (C : Cells) (ds : List Dat) (C' : Cells) : Prop := ∀ σ H F, Sat K Γ C σ H F → ∀ Q : List V → Hp → Prop,
  (∀ vs H' F', Post C F H C' F' H' → Sat K Γ C' σ H' F' → Reps K F' ds vs → Q vs H') → ta σ H Q
/-- a slice's part -/
def EvO (to : TO) (Γ : Gam) (C : Cells) (o : Option Int) (C' : Cells) : Prop := ∀ σ H F, Sat K Γ C σ H F → ∀ Q : Option Int → Hp → Prop,
  (∀ H' F', Post C F H C' F' H' → Sat K Γ C' σ H' F' → Q o H') → to σ H Q
/-- an operation upon values that have been found: their data ds -/
def RcD (r : List V → Hp → VK → Prop) (ds : List Dat) (C : Cells) (d : Dat) (C' : Cells) : Prop := ∀ vs H F, Le F H → CSat K C H F → Reps K F ds vs → ∀ Q : VK,
  (∀ v H' F', Post C F H C' F' H' → Le F' H' → CSat K C' H' F' → Rep K F' d v → Q v H') → r vs H Q
def RcN (r : List V → Hp → VK → Prop) (ds : List Dat) (C : Cells) (c : Cell) (C' : Cells) : Prop := ∀ vs H F, Le F H → CSat K C H F → Reps K F ds vs → ∀ Q : VK,
  (∀ a H' F', Post C F H ((a, c) :: C') F' H' → Le F' H' → CSat K ((a, c) :: C') H' F' → H a = none → Q (.ref a) H') → r vs H Q
end

section
variable {K : PySem.W.Frag} {Γ : Gam} {C C1 C2 C3 : Cells} {σ : L2.St} {H F : Hp} {te ta tb : TE} {tt tu : TT} {d d1 d2 d3 : Dat} {ds : List Dat} {c : Cell}

theorem fz_rep {o : HO} {F : Hp} {a : Addr} (h : CRep K F c o) (e : Kx F (upd F a o)) : Rep K (upd F a o) (fz c) (.ref a) := by
  cases c with
  | lst ds =>
    obtain ⟨vs, rfl, h2⟩ := h
    exact rep_lst.2 ⟨a, vs, rfl, upd_same, h2.kx e⟩
  | dK ds =>
    obtain ⟨vs, rfl, h2⟩ := h
    exact rep_dK.2 ⟨a, vs, rfl, upd_same, h2.kx e⟩
  | ins C ds =>
    obtain ⟨dx, vs, rfl, h2, hc⟩ := h
    exact rep_insC.2 ⟨hc, a, dx, vs, rfl, upd_same, h2.kx e⟩
  | xd ds =>
    obtain ⟨vs, rfl, h2⟩ := h
    exact rep_xd.2 ⟨a, vs, rfl, upd_same, h2.kx e⟩
theorem Kx.upd {F : Hp} {a : Addr} {o : HO} (h : F a = none) : Kx F (upd F a o) := fun b u q => by
  rw [upd_ne (ne_of_none q h)]
  exact q
theorem CSat.cons {a : Addr} {c : Cell} {C : Cells} {H F : Hp} {o : HO} (h : CSat K C H F) (h1 : F a = none) (h2 : H a = some o) (h3 : CRep K F c o) (h4 : a ∉ dom C) : CSat K ((a, c) :: C) H F :=
  ⟨List.nodup_cons.2 ⟨h4, h.nd⟩, fun b e hb => by
    rcases List.mem_cons.1 hb with z | z
    · cases z
      exact ⟨h1, o, h2, h3⟩
    · exact h.at_ b e z⟩
theorem CSat.tail {e : Addr × Cell} {C : Cells} {H F : Hp} (h : CSat K (e :: C) H F) : CSat K C H F :=
  ⟨(List.nodup_cons.1 h.nd).2, fun b c hb => h.at_ b c (List.mem_cons_of_mem _ hb)⟩
theorem CSat.notin {a : Addr} {C : Cells} {H F : Hp} (h : CSat K C H F) (hn : H a = none) : a ∉ dom C := fun hm => by
  obtain ⟨⟨b, c⟩, h1, h2⟩ := List.mem_map.1 hm
  obtain ⟨_, o, h3, _⟩ := h.at_ b c h1
  subst h2
  rw [hn] at h3
  cases h3
theorem mem_dom {a : Addr} {c : Cell} {C : Cells} (h : (a, c) ∈ C) : a ∈ dom C := List.mem_map.2 ⟨_, h, rfl⟩
/-- the newest cell is frozen -/
theorem freeze1 {a : Addr} {C : Cells} {H F : Hp} (s : CSat K ((a, c) :: C) H F) (l : Le F H) : ∃ F', Kx F F' ∧ Le F' H ∧ CSat K C H F' ∧ Rep K F' (fz c) (.ref a) ∧ ∀ b, b ≠ a → F' b = F b := by
  obtain ⟨h1, o, h2, h3⟩ := s.at_ a c List.mem_cons_self
  have e : Kx F (upd F a o) := Kx.upd h1
  refine ⟨upd F a o, e, fun b u q => ?_, ⟨s.tail.nd, fun b k hb => ?_⟩, fz_rep h3 e, fun b hb => upd_ne hb⟩
  · by_cases z : b = a
    · subst z
      rw [upd_same] at q
      cases q
      exact .inl h2
    · rw [upd_ne z] at q
      exact l b u q
  · have z : b ≠ a := fun q => by
      subst q
      exact (List.nodup_cons.1 s.nd).1 (mem_dom hb)
    obtain ⟨g1, u, g2, g3⟩ := s.tail.at_ b k hb
    exact ⟨by rw [upd_ne z]; exact g1, u, g2, g3.kx e⟩
theorem EvN.fz (h : EvN K te Γ C c C1) : Ev K te Γ C (fz c) C1 := fun σ H F s Q q => h σ H F s Q fun a H' F' p s' hn => by
  obtain ⟨F2, e, l2, c2, r2, fr⟩ := freeze1 s'.cel s'.le
  refine q (.ref a) H' F2 ⟨p.kx.trans e, p.keep, fun b h1 ⟨o, h2⟩ h3 => ?_, fun b hb => p.new b (List.mem_cons_of_mem _ hb), p.st⟩ ⟨l2, s'.gam.kx e, c2⟩ r2
  have z : b ≠ a := fun q => by
    subst q
    rw [hn] at h2
    cases h2
  rw [fr b z]
  exact p.nw b h1 ⟨o, h2⟩ h3
theorem RcN.fz {r : List V → Hp → VK → Prop} (h : RcN K r ds C c C1) : RcD K r ds C (fz c) C1 := fun vs H F l s rs Q q => h vs H F l s rs Q fun a H' F' p l' s' hn => by
  obtain ⟨F2, e, l2, c2, r2, fr⟩ := freeze1 s' l'
  refine q (.ref a) H' F2 ⟨p.kx.trans e, p.keep, fun b h1 ⟨o, h2⟩ h3 => ?_, fun b hb => p.new b (List.mem_cons_of_mem _ hb), p.st⟩ l2 c2 r2
  have z : b ≠ a := fun q => by
    subst q
    rw [hn] at h2
    cases h2
  rw [fr b z]
  exact p.nw b h1 ⟨o, h2⟩ h3
/-- a new object is laid -/
theorem post_new {a : Addr} {o : HO} {H F : Hp} (l : Le F H) (s : CSat K C H F) (hn : H a = none) (h : CRep K F c o) :
    Post C F H ((a, c) :: C) F (upd H a o) ∧ Le F (upd H a o) ∧ CSat K ((a, c) :: C) (upd H a o) F := by
  have hF := l.none hn
  have st : ∀ b u, H b = some u → upd H a o b = some u := fun b u e => by
    rw [upd_ne (ne_of_none e hn)]
    exact e
  refine ⟨⟨Kx.refl F, fun b u _ e => .inl (st b u e), fun _ _ _ h => h, fun b hb => ?_, fun b hb => ?_⟩, fun b u e => ?_, ?_⟩
  · rcases List.mem_cons.1 hb with z | z
    · rw [z]
      exact .inr hn
    · exact .inl z
  · cases e : H b with
    | none => rfl
    | some u =>
      rw [st b u e] at hb
      cases hb
  · rcases l b u e with z | ⟨od, k, z1, z2⟩
    · exact .inl (st b u z)
    · exact .inr ⟨od, k, z1, st b _ z2⟩
  · refine CSat.cons ⟨s.nd, fun b k hb => ?_⟩ hF upd_same h (s.notin hn)
    obtain ⟨g1, u, g2, g3⟩ := s.at_ b k hb
    exact ⟨g1, u, st b u g2, g3⟩

/-! ### the simplest -/
theorem ev_var {i : Nat} (h : Γ[i]? = some (some d)) : Ev K (tVar i) Γ C d C := fun σ H F s Q q => by
  obtain ⟨v, h1, h2⟩ := s.gam.at_ i d h
  exact ⟨v, h1, q v H F Post.refl s h2⟩
theorem ev_c {x : V} : Ev K (tC x) Γ C (.v x) C := fun σ H F s Q q => q x H F Post.refl s (rep_v.2 rfl)
theorem ea_nil : EvA K tNil Γ C [] C := fun σ H F s Q q => q [] H F Post.refl s (reps_nil.2 rfl)
theorem ea_cons {tr : TA} (h : Ev K te Γ C d C1) (hr : EvA K tr Γ C1 ds C2) : EvA K (tCons te tr) Γ C (d :: ds) C2 := fun σ H F s Q q =>
  h σ H F s _ fun x H1 F1 p1 s1 r1 => hr σ H1 F1 s1 _ fun xs H2 F2 p2 s2 r2 => q _ H2 F2 (p1.trans p2) s2 (reps_cons.2 ⟨x, xs, rfl, r1.kx p2.kx, r2⟩)
/-- a built-in's call by values -/
theorem ev_cb {r : List V → Hp → VK → Prop} {ta : TA} (h : EvA K ta Γ C ds C1) (hr : RcD K r ds C1 d C2) : Ev K (tCB r ta) Γ C d C2 := fun σ H F s Q q =>
  h σ H F s _ fun vs H1 F1 p1 s1 r1 => hr vs H1 F1 s1.le s1.cel r1 Q fun v H2 F2 p2 l2 c2 r2 => q v H2 F2 (p1.trans p2) ⟨l2, s1.gam.kx p2.kx, c2⟩ r2
theorem en_cb {r : List V → Hp → VK → Prop} {ta : TA} (h : EvA K ta Γ C ds C1) (hr : RcN K r ds C1 c C2) : EvN K (tCB r ta) Γ C c C2 := fun σ H F s Q q =>
  h σ H F s _ fun vs H1 F1 p1 s1 r1 => hr vs H1 F1 s1.le s1.cel r1 Q fun a H2 F2 p2 l2 c2 hn => q a H2 F2 (p1.trans p2) ⟨l2, s1.gam.kx p2.kx, c2⟩ (p1.st a hn)
/-- two operands -/
def r2L (r : R2) : List V → Hp → VK → Prop := fun vs H Q => ∃ x y, vs = [x, y] ∧ r x y H Q
theorem ev_op {r : R2} (ha : Ev K ta Γ C d1 C1) (hb : Ev K tb Γ C1 d2 C2) (hr : RcD K (r2L r) [d1, d2] C2 d C3) : Ev K (tOp r ta tb) Γ C d C3 := fun σ H F s Q q =>
  ha σ H F s _ fun x H1 F1 p1 s1 r1 => hb σ H1 F1 s1 _ fun y H2 F2 p2 s2 r2 => by
    obtain ⟨x', y', e, g⟩ := hr [x, y] H2 F2 s2.le s2.cel (reps_cons.2 ⟨x, [y], rfl, r1.kx p2.kx, reps_cons.2 ⟨y, [], rfl, r2, reps_nil.2 rfl⟩⟩) Q
      fun v H3 F3 p3 l3 c3 r3 => q v H3 F3 ((p1.trans p2).trans p3) ⟨l3, s2.gam.kx p3.kx, c3⟩ r3
    cases e
    exact g
end
end Dm
end

section
set_option maxRecDepth 100000
set_option maxHeartbeats 4000000
/-! DmR: rules for calls whose exceptions are wished at the slots (W), and for the special methods of the text's own classes. -/
namespace Dm
open PySem L2 PySem.Spec PyProof.Rows

section
variable {X : Cx} {k : Nat} {f g C : Addr} {fd : FuncData} {ps : List Str} {sp : Sp} {W : WX} {x m : Str} {p pos apos : Pos} {e o a b : Expr} {es : List Expr} {ta tb : TE} {t : TA} {pins : List (Addr × Obj)} {σ : L2.St} {H : Hp} {s : Shared} {Q : VK}

/-- the callee runs one level deeper in a built-in -/
theorem run_in1 {us : List Value} {vs : List V} (F : FnOk X.prog X.w X.K X.mg X.base (L2.CX X.prog X.w) k f fd ps sp) (hr : Room (k + 1) X.A) (hb : Binds X.K fd ps []) (tk : Takes X W)
    (I : Inv X pins σ H s) (r : Vals vs us) (h : sp vs H Q (WE W σ)) : wpAny (model X.prog X.w) X.A.in1 (call (.ref f) us) (EP X pins σ Q) X.xe s := by
  have hl : us.length = ps.length := by rw [← r.length]; exact F.len _ _ _ _ h
  have b := hb s us I.kIn (by rw [List.append_nil]; exact hl)
  rw [List.append_nil] at b
  refine wpAny_call (codeAny_mono (F.run X.A.in1 X.stack s H ⟨us, []⟩ us vs Q (WE W σ) hr.in1 I.env0.in1 b r h) fun r s' hq => ?_)
  cases r with
  | error e => exact passAt tk σ pins H s e s' I hq
  | ok fl =>
    cases fl with
    | ret u => exact I.after hq
    | next => exact False.elim hq
    | brk => exact False.elim hq
    | cont => exact False.elim hq

/-- f() -/
theorem pe_callS0 (F : FnOk X.prog X.w X.K X.mg X.base (L2.CX X.prog X.w) k f fd ps sp) (hr : Room k X.A) (hg : Gl X x) (hm : X.mg x = some (.ref f)) (hk : PySem.W.keepIn X.K (.ref f) = true) (hb : Binds X.K fd ps []) (tk : Takes X W)
    (hdb : (x == ("__debug__" : Str)) = false := by decide) : PE X (.Call (.Name x p) [] [] pos) (tCallS sp (WE W) tNil) := by
  refine ⟨fun pins s σ H Q I h => ?_⟩
  refine wpAny_Call_Name_kw (ld_glob I hg hm ?_ hdb)
  exact PySem.W.callWith_K0 I.kIn hk (run_fnS (us := []) F hr hb (passAt tk σ) I .nil h)
theorem pe_callF (F : FnOk X.prog X.w X.K X.mg X.base (L2.CX X.prog X.w) k f fd ps sp) (hr : Room k X.A) (hg : Gl X x) (hm : X.mg x = some (.ref f)) (hk : PySem.W.keepIn X.K (.ref f) = true) (hb : Binds X.K fd ps []) (tk : Takes X W)
    (ha : PA X (e :: es) t) (hdb : (x == ("__debug__" : Str)) = false := by decide) (he : starEach (e :: es) X.env = (false, eval e X.env) :: starEach es X.env := by rfl) (hpl : (backTo pos (starEach es X.env)).any (·.1) = false := by rfl) :
    PE X (.Call (.Name x p) (e :: es) [] pos) (tCallS sp (WE W) t) := pe_callS F hr hg hm hk hb (fun σ => passAt tk σ) ha hdb he hpl

/-- o.m(..) -/
def tMethS (C : Addr) (m : Str) (sp : Sp) (W : WX) (ta : TE) (t : TA) : TE := fun σ H Q => ta σ H fun x H1 => ∃ a dx fs, x = .ref a ∧ H1 a = some (.ins C dx fs) ∧ fs.lookup m = none ∧
  t σ H1 fun vs H2 => sp (x :: vs) H2 Q (WE W σ)
theorem pe_methS {pl : Sem Bool} (he : PE X o ta) (c : Cls X.K C) (hm : Meth X.K C m f) (F : FnOk X.prog X.w X.K X.mg X.base (L2.CX X.prog X.w) k f fd ps sp) (hr : Room k X.A) (hb : Binds X.K fd ps []) (tk : Takes X W) (ha : PA X (e :: es) t)
    (hst : starEach (e :: es) X.env = (false, eval e X.env) :: starEach es X.env := by rfl) (hpl : (backTo pos (starEach es X.env)).any (·.1) = false := by rfl)
    (ht : eval (.Call (.Attribute o m apos) (e :: es) [] pos) X.env = (do
      let ov ← eval o X.env
      standAt apos.atName
      let (f, first) ← holding [ov] (getMethod ov m pl)
      callWith pos f first (backTo pos (starEach (e :: es) X.env)) (backToKw pos (keywordEach [] X.env))) := by rfl) :
    PE X (.Call (.Attribute o m apos) (e :: es) [] pos) (tMethS C m sp W ta t) := by
  refine ⟨fun pins s σ H Q I h => ?_⟩
  refine PySem.W.methodCall_KW (pl := pl) (thn (he.run pins s σ H _ I h) fun u s1 ⟨x, H1, I1, rx, a, dx, fs, ex, ea, l, q⟩ => ?_) ht
  subst ex
  obtain rfl : u = Value.ref a := rx
  refine getmeth_ok I1 ea c hm l ?_
  refine PySem.W.callWith_K (first := [.ref a]) (h₀ := X.base) I.ok.mod.kin hm.kp (thn (ha.run pos pins s1 σ H1 _ I1 q) fun us s2 ⟨vs, H2, I2, r, q2⟩ => ⟨I2.kIn, ?_⟩) hst hpl
  exact run_fnS (us := .ref a :: us) (vs := .ref a :: vs) F hr hb (passAt tk σ) I2 (.cons rfl r) q2
theorem pe_methS0 {pl : Sem Bool} (he : PE X o ta) (c : Cls X.K C) (hm : Meth X.K C m f) (F : FnOk X.prog X.w X.K X.mg X.base (L2.CX X.prog X.w) k f fd ps sp) (hr : Room k X.A) (hb : Binds X.K fd ps []) (tk : Takes X W)
    (ht : eval (.Call (.Attribute o m apos) [] [] pos) X.env = (do
      let ov ← eval o X.env
      standAt apos.atName
      let (f, first) ← holding [ov] (getMethod ov m pl)
      callWith pos f first (backTo pos (starEach [] X.env)) (backToKw pos (keywordEach [] X.env))) := by rfl) :
    PE X (.Call (.Attribute o m apos) [] [] pos) (tMethS C m sp W ta tNil) := by
  refine ⟨fun pins s σ H Q I h => ?_⟩
  refine PySem.W.methodCall_KW (pl := pl) (thn (he.run pins s σ H _ I h) fun u s1 ⟨x, H1, I1, rx, a, dx, fs, ex, ea, l, q⟩ => ?_) ht
  subst ex
  obtain rfl : u = Value.ref a := rx
  refine getmeth_ok I1 ea c hm l ?_
  exact PySem.W.callWith_K0 (first := [.ref a]) I1.kIn hm.kp (run_fnS (us := [.ref a]) (vs := [.ref a]) F hr hb (passAt tk σ) I1 (.cons rfl .nil) q)

/-- C(..) -/
def tMakeS (C : Addr) (sp : Sp) (W : WX) (t : TA) : TE := fun σ H Q => t σ H fun vs H1 => ∀ x dx, H1 x = none → H1 dx = none → dx ≠ x →
  sp (.ref x :: vs) (upd (upd H1 dx (.own x)) x (.ins C dx [])) (fun v H2 => v = .non ∧ Q (.ref x) H2) (WE W σ)
theorem run_makeS {us : List Value} {vs : List V} (M : Mk X.K C f) (F : FnOk X.prog X.w X.K X.mg X.base (L2.CX X.prog X.w) k f fd ps sp) (hr : Room (k + 1) X.A) (hb : Binds X.K fd ps []) (tk : Takes X W)
    (I : Inv X pins σ H s) (r : Vals vs us)
    (h : ∀ x dx, H x = none → H dx = none → dx ≠ x → sp (.ref x :: vs) (upd (upd H dx (.own x)) x (.ins C dx [])) (fun v H2 => v = .non ∧ Q (.ref x) H2) (WE W σ)) :
    wpAny (model X.prog X.w) X.A (call (.ref C) us) (EP X pins σ Q) X.xe s := by
  have hq := h (s.heap.objs.size + 1) s.heap.objs.size (I.hok.fresh (Nat.le_succ _)) (I.hok.fresh (Nat.le_refl _)) (Nat.ne_of_lt (Nat.lt_succ_self _))
  have I2 := Inv.made (C := C) I
  have r2 : Vals (V.ref (s.heap.objs.size + 1) :: vs) (Value.ref (s.heap.objs.size + 1) :: us) := .cons rfl r
  have hl : (Value.ref (s.heap.objs.size + 1) :: us).length = ps.length := by
    have e := r2.length
    rw [F.len _ _ _ _ hq] at e
    exact e.symm
  have hbb := hb _ (Value.ref (s.heap.objs.size + 1) :: us) I2.kIn (by rw [List.append_nil]; exact hl)
  rw [List.append_nil] at hbb
  refine wpAny_call (make_map (f := f) I.kIn M.makes M.init (beq_iff_eq.mp M.fn) (codeAny_mono (F.run _ X.stack _ _ ⟨Value.ref (s.heap.objs.size + 1) :: us, []⟩ (Value.ref (s.heap.objs.size + 1) :: us) _ _ (WE W σ) (hr.make C us [])
    (I2.env0.make C us []) hbb r2 hq) fun r s' hq' => ?_))
  cases r with
  | error e => exact passAt tk σ pins _ _ e s' I2 hq'
  | ok fl =>
    cases fl with
    | ret u =>
      obtain ⟨v, H', I3, rv, ev, q3⟩ := I2.after hq'
      subst ev
      exact ⟨rv, ⟨V.ref (s.heap.objs.size + 1), H', I3, rfl, q3⟩⟩
    | next => exact False.elim hq'
    | brk => exact False.elim hq'
    | cont => exact False.elim hq'
theorem pe_makeS (M : Mk X.K C f) (F : FnOk X.prog X.w X.K X.mg X.base (L2.CX X.prog X.w) k f fd ps sp) (hr : Room (k + 1) X.A) (hg : Gl X x) (hm : X.mg x = some (.ref C)) (hb : Binds X.K fd ps []) (tk : Takes X W)
    (ha : PA X (e :: es) t) (hdb : (x == ("__debug__" : Str)) = false := by decide) (he : starEach (e :: es) X.env = (false, eval e X.env) :: starEach es X.env := by rfl) (hpl : (backTo pos (starEach es X.env)).any (·.1) = false := by rfl) :
    PE X (.Call (.Name x p) (e :: es) [] pos) (tMakeS C sp W t) := by
  refine ⟨fun pins s σ H Q I h => ?_⟩
  refine wpAny_Call_Name_kw (ld_glob I hg hm ?_ hdb)
  refine PySem.W.callWith_K (h₀ := X.base) I.ok.mod.kin M.kp (thn (ha.run pos pins s σ H _ I h) fun us s1 ⟨vs, H1, I1, r, q⟩ => ⟨I1.kIn, ?_⟩) he hpl
  exact run_makeS M F hr hb tk I1 r q

/-- a value that is an instance of C, handed to a special method -/
def spAt (C : Addr) (sp : Sp) (W : WX) (σ : L2.St) (x : V) (vs : List V) (H : Hp) (Q : VK) : Prop := ∃ a dx fs, x = .ref a ∧ H a = some (.ins C dx fs) ∧ sp (x :: vs) H Q (WE W σ)
/-- what a special method has: its def at f -/
structure Spc (K : PySem.W.Frag) (C : Addr) (m : Str) (f : Addr) : Prop where
  at_ : PySem.W.findIn K (.ref C) m = some (some (.ref f))
  fn : PySem.W.isFn K (.ref f) = true

/-- len(o) -/
def rLenO (C : Addr) (sp : Sp) : List V → Hp → VK → Prop := fun xs H Q => ∃ a dx fs, xs = [.ref a] ∧ H a = some (.ins C dx fs) ∧ sp [.ref a] H (fun v H' => ∃ n : Nat, v = .int n ∧ n ≤ 100000 ∧ Q (.int n) H') (fun _ _ _ => False)
theorem call_lenO (hs : Spc X.K C "__len__" f) (F : FnOk X.prog X.w X.K X.mg X.base (L2.CX X.prog X.w) k f fd ps sp) (hr : Room (k + 1) X.A) (hb : Binds X.K fd ps []) : CallR X (.builtin "len") (rLenO C sp) := by
  intro pins s σ H xs us Q I r h
  obtain ⟨a, dx, fs, rfl, ha, hsp⟩ := h
  obtain ⟨u, rfl, rx⟩ := vals1 r
  cases rx
  obtain ⟨mA, J, _⟩ := ins_get I.hok ha
  obtain ⟨od, J, _⟩ := J.look
  obtain ⟨m, hF⟩ := I.fr
  refine PySem.W.len_K hF I.ok.mod.kin J hs.at_ hs.fn ?_
  refine wpAny_mono (run_in1 (W := fun _ _ _ _ => False) F hr hb takes0 I (vs := [.ref a]) (.cons rfl .nil) hsp) (fun v s' z => ?_) fun _ _ e => e
  obtain ⟨v', H', I', rv, n, e1, e2, q⟩ := z
  subst e1
  obtain ⟨t, rfl⟩ := rv
  exact ⟨⟨by omega, by omega⟩, .int n, H', I'.tok _, ⟨_, rfl⟩, q⟩
/-- x in o, x not in o -/
def rInO (neg : Bool) (C : Addr) (sp : Sp) : R2 := fun x y H Q => ∃ a dx fs, y = .ref a ∧ H a = some (.ins C dx fs) ∧ sp [.ref a, x] H (fun v H' => ∃ b, v = .bl b ∧ Q (.bl (if neg then !b else b)) H') (fun _ _ _ => False)
theorem op_inO (hs : Spc X.K C "__contains__" f) (F : FnOk X.prog X.w X.K X.mg X.base (L2.CX X.prog X.w) k f fd ps sp) (hr : Room (k + 1) X.A) (hb : Binds X.K fd ps []) : OpR X (compareOp .In) (rInO false C sp) := by
  intro pins s σ H x y v u Q I rx ry h
  obtain ⟨a, dx, fs, rfl, ha, hsp⟩ := h
  cases ry
  obtain ⟨mA, J, _⟩ := ins_get I.hok ha
  obtain ⟨od, J, _⟩ := J.look
  obtain ⟨m, hF⟩ := I.fr
  refine PySem.W.in_K hF I.ok.mod.kin J hs.at_ hs.fn ?_
  refine wpAny_mono (run_fnS F (hr.mono (Nat.le_succ _)) hb (fun p H s e s' I h => passAt (W := fun _ _ _ _ => False) takes0 σ p H s e s' I h) I (vs := [.ref a, x]) (.cons rfl (.cons rx .nil)) hsp) (fun v s' z => ?_) fun _ _ e => e
  obtain ⟨v', H', I', rv, b, e1, q⟩ := z
  subst e1
  cases rv
  exact wpAny_truthy_bool ⟨.bl b, H', I', rfl, q⟩
theorem op_notInO (hs : Spc X.K C "__contains__" f) (F : FnOk X.prog X.w X.K X.mg X.base (L2.CX X.prog X.w) k f fd ps sp) (hr : Room (k + 1) X.A) (hb : Binds X.K fd ps []) : OpR X (compareOp .NotIn) (rInO true C sp) := by
  intro pins s σ H x y v u Q I rx ry h
  obtain ⟨a, dx, fs, rfl, ha, hsp⟩ := h
  cases ry
  obtain ⟨mA, J, _⟩ := ins_get I.hok ha
  obtain ⟨od, J, _⟩ := J.look
  obtain ⟨m, hF⟩ := I.fr
  refine PySem.W.notIn_K hF I.ok.mod.kin J hs.at_ hs.fn ?_
  refine wpAny_mono (run_fnS F (hr.mono (Nat.le_succ _)) hb (fun p H s e s' I h => passAt (W := fun _ _ _ _ => False) takes0 σ p H s e s' I h) I (vs := [.ref a, x]) (.cons rfl (.cons rx .nil)) hsp) (fun v s' z => ?_) fun _ _ e => e
  obtain ⟨v', H', I', rv, b, e1, q⟩ := z
  subst e1
  cases rv
  exact wpAny_truthy_bool ⟨.bl (!b), H', I', rfl, q⟩
/-- o[i] by values: PE -/
def tIxO (C : Addr) (sp : Sp) (W : WX) (ta tb : TE) : TE := fun σ H Q => ta σ H fun x H1 => tb σ H1 fun y H2 => spAt C sp W σ x [y] H2 Q
theorem pe_ixO (ha : PE X a ta) (hb : PE X b tb) (hs : Spc X.K C "__getitem__" f) (hfn : PySem.W.fnIn X.K f = true) (F : FnOk X.prog X.w X.K X.mg X.base (L2.CX X.prog X.w) k f fd ps sp) (hr : Room (k + 1) X.A) (hbd : Binds X.K fd ps []) (tk : Takes X W)
    (he : ∀ v i : Value, subscripted b true v i = runValue (.builtin "lifetime.subscript" ⟨[v, i], []⟩)) : PE X (.Subscript a b pos) (tIxO C sp W ta tb) := by
  refine ⟨fun pins s σ H Q I h => ?_⟩
  refine Subscript_ (binT (R := fun x y H2 => spAt C sp W σ x [y] H2 Q) ha hb I h fun v u s2 x y H2 I2 rx r2 q => ?_)
  obtain ⟨c, dx, fs, rfl, hc, hsp⟩ := q
  obtain rfl : v = Value.ref c := rx
  obtain ⟨mA, J, _⟩ := ins_get I2.hok hc
  obtain ⟨od, J, _⟩ := J.look
  obtain ⟨m, hF⟩ := I2.fr
  exact PySem.W.sub_K hF I2.ok.mod.kin J hs.at_ hfn hs.fn (run_in1 F hr hbd tk I2 (vs := [.ref c, y]) (.cons rfl (.cons r2 .nil)) hsp) (he _ _)
end
end Dm
end

section
set_option maxRecDepth 100000
set_option maxHeartbeats 4000000
/-! DmS: operators of own classes: o op o', o op int, ~o, o == x, o != x, bool(o). -/
namespace Dm
open PySem L2 PySem.Spec PyProof.Rows PySem.W

section
variable {prog : Program} {w : World} {M : Model} {A : Around} {E : Value → Shared → Prop} {s : Shared} {K : PySem.W.Frag} {x C D L f f2 : Addr} {h₀ : Heap} {m : Str → Option Value} {ox : Obj} {od : Option Obj} {nm : String}
/-- two different own classes that both have the operator -/
theorem binD_K {op : Operator} {b : Value} {rc rc2 : Option Value} {Q : Value → Shared → Prop} (F : Fr h₀ L s.heap m) (X₀ : K.In h₀) (I : InstAt s.heap x ox C od) (hb : Looks (model prog w) s.heap (typeOf b) (.ref D)) (hc : selfFirst K C = true) (hcD : selfFirst K D = true)
    (hs : findIn K (.ref C) (PySem.dunder op.info.2) = some (some (.ref f))) (hf : isFn K (.ref f) = true) (hr : findIn K (.ref C) (dunderR op.info.2) = some rc) (hp : rc = none ∨ ∃ g : Addr, rc = some (.ref g))
    (h1 : findIn K (.ref D) (PySem.dunder op.info.2) = some (some (.ref f2))) (h2 : findIn K (.ref D) (dunderR op.info.2) = some rc2) (hp2 : rc2 = none ∨ ∃ g : Addr, rc2 = some (.ref g)) (hsub : subIn K (.ref D) (.ref C) = some false) (hCD : C ≠ D)
    (h : wpAny (model prog w) A (call (.ref f) [.ref x, b]) (PySem.W.CmpBack Q) E s) : wpAny (model prog w) A (binaryOp op (.ref x) b) Q E s := by
  have X := X₀.keeps F.keep
  obtain ⟨cd, rest, hcd, hm⟩ := ksp_first hc
  obtain ⟨cd2, rest2, hcd2, hm2⟩ := ksp_first hcD
  rcases hi : op.info with ⟨sym, nm'⟩
  rw [hi] at hs hr h1 h2
  dsimp only at hs hr h1 h2
  have one := ksp_try X I hs hf h
  obtain ⟨hh, g, d, tt, os⟩ := s
  have L1 : Looks (model prog w) hh (typeOf (.ref x)) (.ref C) := I.type
  have L2 : Looks (model prog w) hh (typeOf b) (.ref D) := hb
  have L3 : Looks (model prog w) hh (fillsNumberSlot (.ref C) nm') true := fills_K X hcd hm hs
  have L4 : Looks (model prog w) hh (fillsNumberSlot (.ref D) nm') true := fills_K X hcd2 hm2 h1
  have L5 : Looks (model prog w) hh (isSubtype (.ref D) (.ref C)) false := looks_subIn X hsub
  have L6 : Looks (model prog w) hh (numberSlotInPython (.ref C) nm') true := ksp_inPy X hs hr hp
  have L7 : Looks (model prog w) hh (numberSlotInPython (.ref D) nm') true := ksp_inPy X h1 h2 hp2
  have hne : (Value.ref C == Value.ref D) = false := Bool.eq_false_iff.mpr fun q => by
    have := beq_iff_eq.mp q
    injection this with z
    exact hCD z
  simp only [binaryOp, hi]
  refine wpAny_holding (wpAny_bind ?_)
  unfold binaryOp1
  refine wpAny_bind (L1.at (wpAny_bind (L2.at (wpAny_bind (L3.at ?_)))))
  simp only [hne, Bool.false_eq_true, if_false]
  ksp_lk
  refine wpAny_mono one (fun r s' hr' => ?_) fun _ _ e => e
  obtain ⟨v, rfl, hq⟩ := hr'
  ksp_lk
  exact hq

/-- object.__ne__ over an own __eq__ -/
theorem slot_ne : Slot "object" "__ne__" "object.__ne__" :=
  .of (T := "object") (name := "__ne__") (owner := "object") (n := "__ne__") (by rw [typeLookup_type, builtinLookup_eq_fast]; kernel_rfl) (by decide +kernel) (by decide +kernel) (by decide +kernel)
    (.inl (by decide +kernel)) (by rw [isSubtype_type]; kernel_rfl)
theorem ifBound_ne {args : List Value} {Q : Option Value → Shared → Prop} (X : K.In s.heap) (I : InstAt s.heap x ox C od) (hs : findIn K (.ref C) "__ne__" = some (some (.builtin "object.__ne__")))
    (h : wpAny M A (call (.builtin "object.__ne__") (.ref x :: args)) (fun v => Q (some v)) E s) : wpAny M A (callSpecialIfBound? (.ref x) "__ne__" args) Q E s := by
  simp only [callSpecialIfBound?, bindSpecialIfBound?]
  refine wpAny_holding (wpAny_bind (wpAny_bind (wpAny_bind (I.type.here ((looks_findIn X hs).here ?_)))))
  have fin : wpAny M A (call (.builtin "object.__ne__") ([.ref x] ++ args) >>= fun v => pure (some v)) Q E s := wpAny_bind (wpAny_mono h (fun v s' h' => wpAny_pure h') fun _ _ h' => h')
  simp only [slot_ne.bind]
  refine wpAny_bind (wpAny_askSetting (wpAny_ite ?_))
  split
  · exact wpAny_bind (wpAny_pure (wpAny_pure (by exact fin)))
  · exact wpAny_tryCatch (wpAny_bind (wpAny_pure (wpAny_pure (by exact fin))))
theorem ne_K {b tb : Value} {Q : Value → Shared → Prop} (hu : A.units + 1 < cLine) (F₀ : Fr h₀ L s.heap m) (X₀ : K.In h₀) (I : InstAt s.heap x ox C od) (hb : Looks (model prog w) s.heap (typeOf b) tb) (hn : notFirst K C tb = true)
    (hne : findIn K (.ref C) "__ne__" = some (some (.builtin "object.__ne__"))) (hs : findIn K (.ref C) "__eq__" = some (some (.ref f))) (hf : isFn K (.ref f) = true) (hm : mroIn K C (.type "object") = some true)
    (h : wpAny (model prog w) A.in1 (call (.ref f) [.ref x, b]) (fun v s' => ∃ r, v = .bool r ∧ Q (.bool (!r)) s') E s) : wpAny (model prog w) A (richCompare .NotEq (.ref x) b) Q E s := by
  have X := X₀.keeps F₀.keep
  have one : wpAny (model prog w) A (tryCompare (.ref x) "__ne__" b) (fun r s' => ∃ v, r = some v ∧ Q v s') E s := by
    unfold tryCompare
    have cal : wpAny (model prog w) A (call (.builtin "object.__ne__") [.ref x, b]) (fun v s' => ∃ r, v = .bool r ∧ Q (.bool r) s') E s := by
      refine wpAny_call (codeAny_call_builtin slot_ne.plain F.cmpEntry_ne (check_slot F.cmpKind_ne F.cmpSplit_ne (I.type.andThen (looks_mroIn X hm)) (F.cmpArgs_ne _ _) ?_))
      unfold Builtin.«object.__ne__»
      refine wpAny_bind (wpAny_of_eq (a := ((Value.ref x : Value), [b])) (by first | rfl | (simp only [Builtin.slotArgs]; rfl)) ?_)
      refine wpAny_bind (wpAny_cRoomFor (by show A.units + 1 < cLine; exact hu) ?_)
      refine wpAny_bind (ifBound_K X I hs hf (wpAny_mono h (fun v s' hv => ?_) fun _ _ e => e))
      obtain ⟨r, rfl, q⟩ := hv
      refine wpAny_bind (wpAny_truthy_bool ?_)
      exact wpAny_pure ⟨!r, rfl, q⟩
    refine wpAny_bind (ifBound_ne X I hne (wpAny_mono cal (fun v s' ⟨r, e, q⟩ => ?_) fun _ _ e => e))
    subst e
    exact wpAny_pure ⟨_, rfl, q⟩
  unfold richCompare
  simp only [oneThing_ref]
  refine wpAny_holding (wpAny_bind (wpAny_cRoomFor (Nat.lt_of_succ_lt hu) ?_))
  refine wpAny_bind (I.type.here (wpAny_bind (hb.here ?_)))
  split
  · rename_i q
    have e : subIn K tb (.ref C) = some false := by
      rcases Bool.or_eq_true_iff.mp hn with e | e
      · rw [beq_iff_eq.mp e] at q; simp at q
      · exact beq_iff_eq.mp e
    refine wpAny_bind ((looks_subIn X e).here ?_)
    simp only [Bool.false_eq_true, if_false]
    refine wpAny_bind (wpAny_mono one (fun r s' z => ?_) fun _ _ e => e)
    obtain ⟨v, rfl, hq⟩ := z
    exact wpAny_pure hq
  · refine wpAny_bind (wpAny_pure ?_)
    simp only [Bool.false_eq_true, if_false]
    refine wpAny_bind (wpAny_mono one (fun r s' z => ?_) fun _ _ e => e)
    obtain ⟨v, rfl, hq⟩ := z
    exact wpAny_pure hq
end

/-! ### over the layer -/
/-- what is known of an own class -/
structure OwnC (K : PySem.W.Frag) (C : Addr) : Prop where
  cl : Cls K C
  ha : PySem.W.findIn K (.ref C) "__class__" = some (some (.builtin "object.__class__"))
  hm : PySem.W.mroIn K C (.type "object") = some true
  sf : PySem.W.selfFirst K C = true
structure Cl0 (K : PySem.W.Frag) : Prop where
  hn : PySem.W.specialIn K (.builtin "object.__class__") "__get__" = some (some (.builtin "getset_descriptor.__get__"))
  ht : PySem.W.takesIn K (.builtin "object.__class__") = some true
theorem OwnC.ty {K : PySem.W.Frag} {C a dx : Addr} {fs : List (Str × V)} {H : Hp} (o : OwnC K C) (z : Cl0 K) (h : H a = some (.ins C dx fs)) : TyX K H (.ref a) (.ref C) := .base (.ins h o.cl o.ha z.hn z.ht o.hm)

section
variable {X : Cx} {k : Nat} {f f2 g C D : Addr} {fd : FuncData} {ps : List Str} {sp : Sp} {W : WX} {x m : Str} {p pos apos : Pos} {e o a b : Expr} {es : List Expr} {ta tb : TE} {t : TA} {pins : List (Addr × Obj)} {σ : L2.St} {H : Hp} {s : Shared} {Q : VK}
theorem looks_ty {M : Model} {y : V} {u t : Value} (I : Inv X pins σ H s) (r : RelV y u) (ty : TyX X.K H y t) : Looks M s.heap (typeOf u) t := by
  have atL : ∀ (a : Addr) (ob : Obj), s.heap.get? a = some ob → Looks M s.heap (typeOf (.ref a)) ob.cls := fun a ob h => (Looks.ld h).andThen .now
  cases ty with
  | base q =>
    cases q with
    | non => cases r; exact Looks.of_pure rfl
    | bl y => cases r; exact Looks.of_pure rfl
    | int i => obtain ⟨t, rfl⟩ := r; exact Looks.of_pure rfl
    | str y => obtain ⟨t, rfl⟩ := r; exact Looks.of_pure rfl
    | flt y => obtain ⟨t, rfl⟩ := r; exact Looks.of_pure rfl
    | @lst a xs ea =>
      cases r
      obtain ⟨_, _, n, _, h1⟩ := (show ObjOk X.prog X.w H s.heap a (.lst xs) from I.hok a _ ea)
      exact atL _ _ h1
    | @frz a ob xs ea =>
      cases r
      obtain ⟨_, _, _, n, _, h1⟩ := (show ObjOk X.prog X.w H s.heap a (.frz ob (.lst xs)) from I.hok a _ ea)
      exact atL _ _ h1
    | @tup a xs ea =>
      cases r
      obtain ⟨_, _, _, o, h1, h2, _⟩ := (show ObjOk X.prog X.w H s.heap a (.tup xs) from I.hok a _ ea)
      exact h2 ▸ atL _ _ h1
    | @dK a kvs ea =>
      cases r
      obtain ⟨_, _, vs, _, o, es, ep, h1, h2, _⟩ := (show ObjOk X.prog X.w H s.heap a (.dK kvs) from I.hok a _ ea)
      exact h2.1 ▸ atL _ _ h1
    | @dT a kvs ea =>
      cases r
      obtain ⟨_, _, xs, _, o, es, ep, h1, h2, _⟩ := (show ObjOk X.prog X.w H s.heap a (.dT kvs) from I.hok a _ ea)
      exact h2.1 ▸ atL _ _ h1
    | @ins a C dx fs ea cl ha hn htk hm =>
      cases r
      obtain ⟨mA, O, _⟩ := ins_get I.hok ea
      obtain ⟨od, J, _⟩ := O.look
      exact J.type
  | byt y => obtain ⟨t, rfl⟩ := r; exact Looks.of_pure rfl
  | @set a S n ea =>
    cases r
    obtain ⟨o, _, _, _, e, ex, _⟩ := I.hok a _ ea
    exact ex.1 ▸ atL _ _ e
  | @kList a o e c =>
    cases r
    exact c ▸ atL _ _ (I.kIn a o e)
  | @kTuple a o e c =>
    cases r
    exact c ▸ atL _ _ (I.kIn a o e)
  | @kDict a o e c =>
    cases r
    exact c ▸ atL _ _ (I.kIn a o e)
  | @fTuple a ob xs ea =>
    cases r
    obtain ⟨_, _, _, _, o, h1, h2, _⟩ := (show ObjOk X.prog X.w H s.heap a (.frz ob (.tup xs)) from I.hok a _ ea)
    exact h2 ▸ atL _ _ h1
  | @fDict a ob kvs ea =>
    cases r
    obtain ⟨_, _, _, vs, _, o, es, ep, h1, h2, _⟩ := (show ObjOk X.prog X.w H s.heap a (.frz ob (.dK kvs)) from I.hok a _ ea)
    exact h2.1 ▸ atL _ _ h1

theorem backC {Q : VK} {u : Value} {s' : Shared} (z : EP X pins σ Q u s') : PySem.W.CmpBack (EP X pins σ Q) u s' := by
  obtain ⟨v, H', I', rv, q⟩ := z
  have h : EP X pins σ Q u s' := ⟨v, H', I', rv, q⟩
  cases v with
  | non => cases rv; exact h
  | bl b => cases rv; exact h
  | int i => obtain ⟨t, rfl⟩ := rv; exact h
  | str i => obtain ⟨t, rfl⟩ := rv; exact h
  | byt i => obtain ⟨t, rfl⟩ := rv; exact h
  | flt i => obtain ⟨t, rfl⟩ := rv; exact h
  | ref i => cases rv; exact h
  | ty i => cases rv; exact h

/-- the other operand of o op y -/
inductive OtherC (K : PySem.W.Frag) (H : Hp) (C : Addr) (op : Operator) : V → Prop where
  | same {a dx : Addr} {fs : List (Str × V)} (h : H a = some (.ins C dx fs)) : OtherC K H C op (.ref a)
  | own {D f2 a dx : Addr} {fs : List (Str × V)} {rc rc2 : Option Value} (h : H a = some (.ins D dx fs)) (hcD : PySem.W.selfFirst K D = true) (hr : PySem.W.findIn K (.ref C) (dunderR op.info.2) = some rc) (hp : rc = none ∨ ∃ g : Addr, rc = some (.ref g))
      (h1 : PySem.W.findIn K (.ref D) (PySem.dunder op.info.2) = some (some (.ref f2))) (h2 : PySem.W.findIn K (.ref D) (dunderR op.info.2) = some rc2) (hp2 : rc2 = none ∨ ∃ g : Addr, rc2 = some (.ref g))
      (hsub : PySem.W.subIn K (.ref D) (.ref C) = some false) (hCD : C ≠ D) : OtherC K H C op (.ref a)
  | int {i : Int} {fo ro rc : Option Value} (hr : PySem.W.findIn K (.ref C) (dunderR op.info.2) = some rc) (hp : rc = none ∨ ∃ g : Addr, rc = some (.ref g))
      (h1 : PySem.W.findIn K (.type "int") (PySem.dunder op.info.2) = some fo) (h2 : PySem.W.findIn K (.type "int") (dunderR op.info.2) = some ro) (hsub : PySem.W.subIn K (.type "int") (.ref C) = some false) : OtherC K H C op (.int i)
/-- o op y -/
def tBinO (K : PySem.W.Frag) (C : Addr) (op : Operator) (sp : Sp) (W : WX) (ta tb : TE) : TE := fun σ H Q => ta σ H fun x H1 => tb σ H1 fun y H2 => ∃ a dx fs, x = .ref a ∧ H2 a = some (.ins C dx fs) ∧ OtherC K H2 C op y ∧ sp [x, y] H2 Q (WE W σ)
theorem pe_binO {op : Operator} (ha : PE X a ta) (hb : PE X b tb) (hc : PySem.W.selfFirst X.K C = true) (hs : Spc X.K C (PySem.dunder op.info.2) f) (F : FnOk X.prog X.w X.K X.mg X.base (L2.CX X.prog X.w) k f fd ps sp) (hr : Room k X.A) (hbd : Binds X.K fd ps []) (tk : Takes X W) :
    PE X (.BinOp a op b pos) (tBinO X.K C op sp W ta tb) := by
  refine ⟨fun pins s σ H Q I h => ?_⟩
  refine wpAny_BinOp (bin (R := fun x y H2 => ∃ a dx fs, x = .ref a ∧ H2 a = some (.ins C dx fs) ∧ OtherC X.K H2 C op y ∧ sp [x, y] H2 Q (WE W σ)) ha hb I h fun v u s2 x y H2 I2 rx ry q => ?_)
  obtain ⟨c, dx, fs, rfl, hc', ho, hsp⟩ := q
  obtain rfl : v = Value.ref c := rx
  obtain ⟨mA, J, _⟩ := ins_get I2.hok hc'
  obtain ⟨od, J, _⟩ := J.look
  obtain ⟨m, hF⟩ := I2.fr
  have run := wpAny_mono (run_fnS F hr hbd (passAt tk σ) I2 (vs := [.ref c, y]) (us := [.ref c, u]) (.cons rfl (.cons ry .nil)) hsp) (fun v s' z => backC z) fun _ _ e => e
  cases ho with
  | @same a' dx' fs' h' =>
    cases ry
    obtain ⟨mB, J', _⟩ := ins_get I2.hok h'
    obtain ⟨od', J', _⟩ := J'.look
    exact PySem.W.binop_K hF I2.ok.mod.kin J J'.type hc hs.at_ hs.fn run
  | @own D' f2' a' dx' fs' rc rc2 h' hcD hr' hp h1 h2 hp2 hsub hCD =>
    cases ry
    obtain ⟨mB, J', _⟩ := ins_get I2.hok h'
    obtain ⟨od', J', _⟩ := J'.look
    exact binD_K hF I2.ok.mod.kin J J'.type hc hcD hs.at_ hs.fn hr' hp h1 h2 hp2 hsub hCD run
  | @int i fo ro rc hr' hp h1 h2 hsub =>
    obtain ⟨t, rfl⟩ := ry
    exact PySem.W.ksp_binT hF I2.ok.mod.kin J rfl hc hs.at_ hs.fn hr' hp h1 h2 hsub run
/-- o op= y -/
def tIopO (C : Addr) (sp : Sp) (W : WX) (σ : L2.St) : V → V → Hp → VK → Prop := fun x y H Q => ∃ a dx fs, x = .ref a ∧ H a = some (.ins C dx fs) ∧ sp [x, y] H Q (WE W σ)
/-- ~o -/
def rInvO (C : Addr) (sp : Sp) : V → Hp → VK → Prop := fun x H Q => ∃ a dx fs, x = .ref a ∧ H a = some (.ins C dx fs) ∧ sp [.ref a] H Q (fun _ _ _ => False)
theorem un_invO (hs : Spc X.K C "__invert__" f) (F : FnOk X.prog X.w X.K X.mg X.base (L2.CX X.prog X.w) k f fd ps sp) (hr : Room k X.A) (hb : Binds X.K fd ps []) : UnR X (unaryOp .Invert) (rInvO C sp) := by
  intro pins s σ H x v Q I rx h
  obtain ⟨a, dx, fs, rfl, ha, hsp⟩ := h
  cases rx
  obtain ⟨mA, J, _⟩ := ins_get I.hok ha
  obtain ⟨od, J, _⟩ := J.look
  obtain ⟨m, hF⟩ := I.fr
  exact PySem.W.ksp_inv hF I.ok.mod.kin J hs.at_ hs.fn (run_fnS F hr hb (fun p H s e s' I h => passAt (W := fun _ _ _ _ => False) takes0 σ p H s e s' I h) I (vs := [.ref a]) (us := [.ref a]) (.cons rfl .nil) hsp)
/-- o == y -/
def rEqO (K : PySem.W.Frag) (C : Addr) (sp : Sp) : R2 := fun x y H Q => ∃ a dx fs t, x = .ref a ∧ H a = some (.ins C dx fs) ∧ TyX K H y t ∧ PySem.W.notFirst K C t = true ∧ sp [.ref a, y] H Q (fun _ _ _ => False)
theorem op_eqO (hs : Spc X.K C "__eq__" f) (F : FnOk X.prog X.w X.K X.mg X.base (L2.CX X.prog X.w) k f fd ps sp) (hr : Room k X.A) (hb : Binds X.K fd ps []) : OpR X (compareOp .Eq) (rEqO X.K C sp) := by
  intro pins s σ H x y v u Q I rx ry h
  obtain ⟨a, dx, fs, t, rfl, ha, ty, hn, hsp⟩ := h
  cases rx
  obtain ⟨mA, J, _⟩ := ins_get I.hok ha
  obtain ⟨od, J, _⟩ := J.look
  obtain ⟨m, hF⟩ := I.fr
  exact PySem.W.cmp_K (op := .Eq) hr.units0 hF I.ok.mod.kin J (looks_ty I ry ty) hn hs.at_ hs.fn
    (wpAny_mono (run_fnS F hr hb (fun p H s e s' I h => passAt (W := fun _ _ _ _ => False) takes0 σ p H s e s' I h) I (vs := [.ref a, y]) (us := [.ref a, u]) (.cons rfl (.cons ry .nil)) hsp) (fun v s' z => backC z) fun _ _ e => e)
/-- o != y, by the own == -/
def rNeO (K : PySem.W.Frag) (C : Addr) (sp : Sp) : R2 := fun x y H Q => ∃ a dx fs t, x = .ref a ∧ H a = some (.ins C dx fs) ∧ TyX K H y t ∧ PySem.W.notFirst K C t = true ∧ sp [.ref a, y] H (fun v H' => ∃ b, v = .bl b ∧ Q (.bl (!b)) H') (fun _ _ _ => False)
theorem op_neO (hs : Spc X.K C "__eq__" f) (hne : PySem.W.findIn X.K (.ref C) "__ne__" = some (some (.builtin "object.__ne__"))) (hm : PySem.W.mroIn X.K C (.type "object") = some true) (F : FnOk X.prog X.w X.K X.mg X.base (L2.CX X.prog X.w) k f fd ps sp) (hr : Room (k + 1) X.A) (hb : Binds X.K fd ps []) :
    OpR X (compareOp .NotEq) (rNeO X.K C sp) := by
  intro pins s σ H x y v u Q I rx ry h
  obtain ⟨a, dx, fs, t, rfl, ha, ty, hn, hsp⟩ := h
  cases rx
  obtain ⟨mA, J, _⟩ := ins_get I.hok ha
  obtain ⟨od, J, _⟩ := J.look
  obtain ⟨m, hF⟩ := I.fr
  refine ne_K (by have := hr.units; omega) hF I.ok.mod.kin J (looks_ty I ry ty) hn hne hs.at_ hs.fn hm
    (wpAny_mono (run_in1 (W := fun _ _ _ _ => False) F hr hb takes0 I (vs := [.ref a, y]) (us := [.ref a, u]) (.cons rfl (.cons ry .nil)) hsp) (fun v s' z => ?_) fun _ _ e => e)
  obtain ⟨v', H', I', rv, b, e1, q⟩ := z
  subst e1
  cases rv
  exact ⟨b, rfl, .bl (!b), H', I', rfl, q⟩
end
end Dm
end

section
set_option maxRecDepth 100000
set_option maxHeartbeats 4000000
/-! DmG: defs, methods of the text as they are used; bool(o); the walk's tactics. -/
namespace Dm
open PySem L2 PySem.Spec PyProof.Rows

theorem hu64 {k : Nat} {A : Around} (h : Room k A) : A.units + 64 < cLine := h.units
section
variable {X : Cx} {k : Nat} {f C : Addr} {fd : FuncData} {ps : List Str} {sp : Sp} {W : WX} {pins : List (Addr × Obj)} {σ : L2.St} {H : Hp} {s : Shared} {Q : VK}
theorem run_at {A : Around} {us : List Value} {vs : List V} (F : FnOk X.prog X.w X.K X.mg X.base (L2.CX X.prog X.w) k f fd ps sp) (hr : Room k A) (hf : A.frames = X.A.frames) (hb : Binds X.K fd ps []) (tk : Takes X W)
    (I : Inv X pins σ H s) (r : Vals vs us) (h : sp vs H Q (WE W σ)) : wpAny (model X.prog X.w) A (call (.ref f) us) (EP X pins σ Q) X.xe s := by
  have hl : us.length = ps.length := by rw [← r.length]; exact F.len _ _ _ _ h
  have b := hb s us I.kIn (by rw [List.append_nil]; exact hl)
  rw [List.append_nil] at b
  have e0 : Env0 X.prog X.w X.K X.mg X.base A X.stack s H := by
    have e := I.env0
    exact ⟨by rw [hf]; exact e.frames, e.mod, e.bs, e.bsz, e.funs, e.frf, e.hok, e.bare⟩
  refine wpAny_call (codeAny_mono (F.run A X.stack s H ⟨us, []⟩ us vs Q (WE W σ) hr e0 b r h) fun r s' hq => ?_)
  cases r with
  | error e => exact passAt tk σ pins H s e s' I hq
  | ok fl =>
    cases fl with
    | ret u => exact I.after hq
    | next => exact False.elim hq
    | brk => exact False.elim hq
    | cont => exact False.elim hq
theorem meets_boolO {prog : Program} {w : World} {a : Addr} : MeetsIn prog w (Builtin.«bool.__new__» ⟨[.type "bool", .ref a], []⟩) (fun A R s => wpAny (model prog w) A.in1 (truthy (.ref a)) (fun b s' => R (.ok (.ret (.bool b))) s') (fun e s' => R (.error e) s') s) := fun A R s h => by
  obtain ⟨hp, g, d, tk, os⟩ := s
  have f1 := F.conv_sub_bool
  unfold Builtin.«bool.__new__»
  repeat (any_goals (first | (with_reducible refine wpAny_bind (m := truthy (.ref a)) (wpAny_mono h (fun b s' z => ?_) fun _ _ e => e)) | wp_step))
  all_goals first | exact z | assumption
/-- bool(o) by __bool__ -/
def rBoolO (C : Addr) (sp : Sp) : List V → Hp → VK → Prop := fun xs H Q => ∃ a dx fs, xs = [.ref a] ∧ H a = some (.ins C dx fs) ∧ sp [.ref a] H (fun v H' => ∃ b, v = .bl b ∧ Q (.bl b) H') (fun _ _ _ => False)
theorem call_boolO (hs : Spc X.K C "__bool__" f) (Fo : FnOk X.prog X.w X.K X.mg X.base (L2.CX X.prog X.w) k f fd ps sp) (hr : Room (k + 2) X.A) (hb : Binds X.K fd ps []) : CallR X (.type "bool") (rBoolO C sp) := by
  intro pins s σ H xs us Q I r h
  obtain ⟨a, dx, fs, rfl, ha, hsp⟩ := h
  obtain ⟨u, rfl, rx⟩ := vals1 r
  cases rx
  obtain ⟨mA, J, _⟩ := ins_get I.hok ha
  obtain ⟨od, J, _⟩ := J.look
  obtain ⟨m, hF⟩ := I.fr
  refine callType_newIn PySem.F.called_bool PySem.F.newNe_bool (PySem.F.typeCall_bool_1 _) (PySem.F.newCall_bool_1 _) (fun obj => PySem.F.args_object_init_2 obj _) PySem.F.entry_bool_new meets_boolO ?_
  refine PySem.W.truthy_K hF I.ok.mod.kin J hs.at_ hs.fn (wpAny_mono (run_at (A := X.A.in1.in1) (W := fun _ _ _ _ => False) Fo hr.in1.in1 rfl hb takes0 I (vs := [.ref a]) (us := [.ref a]) (.cons rfl .nil) hsp) (fun v s' z => ?_) fun _ _ e => e)
  obtain ⟨v', H', I', rv, b, e1, q⟩ := z
  subst e1
  cases rv
  exact ⟨rfl, .bl b, H', I', rfl, q⟩
end
section
variable {X : Cx}
/-- isinstance(e, c), e the exception that the suite holds -/
def rIsX (K : PySem.W.Frag) (a : Addr) (cls : Value) (d : Option Addr) : List V → Hp → VK → Prop := fun xs H Q => ∃ D, cls = .ref D ∧ d = none ∧ ExcC K D ∧ rIsE K D a xs H Q
theorem call_isX {a : Addr} {oe : Obj} {cls : Value} {d : Option Addr} {pn : List (Addr × Obj)} (hz : Zc cls d oe) (hf : ∃ vs, oe.data = .fields vs) : CallR (X.suite a ((a, oe) :: pn)) (.builtin "isinstance") (rIsX X.K a cls d) := by
  intro pins s σ H xs us Q I r h
  obtain ⟨D, rfl, rfl, C, h⟩ := h
  exact call_isE C hz hf pins s σ H xs us Q I r h
end
end Dm
end

section
set_option maxRecDepth 100000
set_option maxHeartbeats 4000000
/-! Dm2: statements (Run), promises by data (spF), calls. -/
namespace Dm
open PySem L2

structure Exn where
  cls : Str
  fs : Option (List (Str × Dat))
/-- the own dict of a flying exception is a cell on top of the others -/
def XSat (N : Addr → Prop) (x : Exn) (C : Cells) (d : Option Addr) (C' : Cells) : Prop := match x.fs with
  | none => d = none ∧ C' = C
  | some fs => ∃ a, d = some a ∧ C' = (a, .xd fs) :: C ∧ N a
theorem XSat.app {N : Addr → Prop} {x : Exn} {C C' R : Cells} {d : Option Addr} (h : XSat N x C d C') : XSat N x (C ++ R) d (C' ++ R) := by
  unfold XSat at *
  split at h
  · obtain ⟨h1, rfl⟩ := h; exact ⟨h1, rfl⟩
  · obtain ⟨a, h1, rfl, hn⟩ := h; exact ⟨a, h1, rfl, hn⟩
theorem XSat.imp {N N' : Addr → Prop} {x : Exn} {C C' : Cells} {d : Option Addr} (h : XSat N x C d C') (hi : ∀ a, N a → N' a) : XSat N' x C d C' := by
  unfold XSat at *
  split at h
  · exact h
  · obtain ⟨a, h1, rfl, hn⟩ := h; exact ⟨a, h1, rfl, hi a hn⟩
abbrev frH (H : Hp) : Addr → Prop := fun a => H a = none
theorem XSat.st {C0 C1 : Cells} {F H F1 H1 : Hp} {x : Exn} {C C' : Cells} {d : Option Addr} (h : XSat (frH H1) x C d C') (p : Post C0 F H C1 F1 H1) : XSat (frH H) x C d C' := h.imp fun a => p.st a

inductive Out where
  | ret (d : Dat) (C : Cells)
  | new (c : Cell) (C : Cells)
  | exc (x : Exn) (C : Cells)
structure Pr where
  args : List Dat
  cin : Cells
  out : Out
abbrev Fam := Pr → Prop
def OutK (K : PySem.W.Frag) (o : Out) (cin : Cells) (F H : Hp) (Q : VK) (E : XK) : Prop := match o with
  | .ret d C' => ∀ v H' F', Post cin F H C' F' H' → Le F' H' → CSat K C' H' F' → Rep K F' d v → Q v H'
  | .new c C' => ∀ a H' F', Post cin F H ((a, c) :: C') F' H' → Le F' H' → CSat K ((a, c) :: C') H' F' → H a = none → Q (.ref a) H'
  | .exc x C' => ∀ d C'' H' F', XSat (frH H) x C' d C'' → Post cin F H C'' F' H' → Le F' H' → CSat K C'' H' F' → E (.ref (clOf K x.cls)) d H'
/-- THE PROMISE by data -/
def spF (K : PySem.W.Frag) (φ : Fam) : Sp := fun vs H Q E => ∃ p F, φ p ∧ Reps K F p.args vs ∧ Le F H ∧ CSat K p.cin H F ∧ OutK K p.out p.cin F H Q E

/-! ### some cells out of the cells -/
inductive Pick : Addr × Cell → Cells → Cells → Prop where
  | head {x : Addr × Cell} {R : Cells} : Pick x (x :: R) R
  | tail {x y : Addr × Cell} {C R : Cells} (h : Pick x C R) : Pick x (y :: C) (y :: R)
theorem Pick.perm {x : Addr × Cell} {C R : Cells} (h : Pick x C R) : C.Perm (x :: R) := by
  induction h with
  | head => exact List.Perm.refl _
  | tail h ih => exact (List.Perm.cons _ ih).trans (List.Perm.swap _ _ _)
theorem Pick.mem {x : Addr × Cell} {C R : Cells} (h : Pick x C R) : x ∈ C := h.perm.symm.subset List.mem_cons_self
inductive Picks : Cells → Cells → Cells → Prop where
  | nil {C : Cells} : Picks [] C C
  | cons {x : Addr × Cell} {xs C C1 R : Cells} (h : Pick x C C1) (t : Picks xs C1 R) : Picks (x :: xs) C R
theorem Picks.perm {xs C R : Cells} (h : Picks xs C R) : C.Perm (xs ++ R) := by
  induction h with
  | nil => exact List.Perm.refl _
  | cons h t ih => exact h.perm.trans (List.Perm.cons _ ih)

section
variable {K : PySem.W.Frag} {Γ Γ' : Gam} {C C1 C2 C3 R Ci Co : Cells} {σ : L2.St} {H H' F F' : Hp} {te ta tb : TE} {tt tu : TT} {d d1 d2 d3 : Dat} {ds : List Dat} {c : Cell} {W : WX} {x : Exn}

theorem CSat.ex (s : CSat K C H F) {a : Addr} (m : a ∈ dom C) : ∃ o, H a = some o := by
  obtain ⟨⟨b, c⟩, h1, rfl⟩ := List.mem_map.1 m
  obtain ⟨_, o, h2, _⟩ := s.at_ b c h1
  exact ⟨o, h2⟩
theorem CSat.sub (s : CSat K C H F) (h : C1.Sublist C) : CSat K C1 H F := ⟨s.nd.sublist (h.map _), fun a c m => s.at_ a c (h.subset m)⟩
theorem CSat.perm (s : CSat K C H F) (h : C.Perm C1) : CSat K C1 H F := ⟨(h.map _).nodup_iff.1 s.nd, fun a c m => s.at_ a c (h.symm.subset m)⟩
theorem Post.sub (p : Post C F H C1 F' H') (h : C2.Sublist C1) : Post C F H C2 F' H' := ⟨p.kx, p.keep, p.nw, fun a m => p.new a ((h.map _).subset m), p.st⟩
theorem Post.perm (p : Post C F H C1 F' H') (h : C1.Perm C2) : Post C F H C2 F' H' := ⟨p.kx, p.keep, p.nw, fun a m => p.new a ((h.map (·.1)).symm.subset m), p.st⟩
/-- what a callee did to its cells, seen by the caller -/
theorem frame (hp : C.Perm (Ci ++ R)) (s : CSat K C H F) (p : Post Ci F H Co F' H') (l' : Le F' H') (s' : CSat K Co H' F') : Post C F H (Co ++ R) F' H' ∧ CSat K (Co ++ R) H' F' := by
  have sp := s.perm hp
  have hd : ∀ a, a ∈ dom C ↔ a ∈ dom Ci ∨ a ∈ dom R := fun a => by
    unfold dom
    rw [(hp.map (·.1)).mem_iff, List.map_append, List.mem_append]
  have nd : (dom Ci ++ dom R).Nodup := by
    have := sp.nd
    unfold dom at this ⊢
    rwa [List.map_append] at this
  obtain ⟨n1, n2, n3⟩ := List.nodup_append.1 nd
  have out : ∀ a, a ∈ dom R → a ∉ dom Ci := fun a h1 h2 => n3 a h2 a h1 rfl
  have rat : ∀ a c, (a, c) ∈ R → F a = none ∧ ∃ o, H a = some o ∧ CRep K F c o := fun a c m => sp.at_ a c (List.mem_append_right _ m)
  refine ⟨⟨p.kx, fun a o h1 h2 => p.keep a o (fun z => h1 ((hd a).2 (.inl z))) h2, fun a h1 h2 h3 => p.nw a (fun z => h1 ((hd a).2 (.inl z))) h2 h3, fun a m => ?_, p.st⟩, ⟨?_, fun a c m => ?_⟩⟩
  · have m' : a ∈ dom Co ∨ a ∈ dom R := by
      unfold dom at m
      rw [List.map_append] at m
      exact List.mem_append.1 m
    rcases m' with z | z
    · rcases p.new a z with y | y
      · exact .inl ((hd a).2 (.inl y))
      · exact .inr y
    · exact .inl ((hd a).2 (.inr z))
  · unfold dom
    rw [List.map_append]
    refine List.nodup_append.2 ⟨s'.nd, n2, fun a h1 b h2 e => ?_⟩
    subst e
    obtain ⟨⟨b, c⟩, m, rfl⟩ := List.mem_map.1 h2
    obtain ⟨_, o, ho, _⟩ := rat b c m
    rcases p.new b h1 with y | y
    · exact out b h2 y
    · rw [y] at ho
      cases ho
  · rcases List.mem_append.1 m with z | z
    · exact s'.at_ a c z
    · obtain ⟨g1, o, g2, g3⟩ := rat a c z
      have ho := out a (mem_dom z)
      exact ⟨p.nw a ho ⟨o, g2⟩ g1, o, (p.keep a o ho g2).eq g1, g3.kx p.kx⟩

/-- C0 is a part of C -/
def SubP (C0 C : Cells) : Prop := ∃ R, C.Perm (C0 ++ R)
theorem SubP.refl {C : Cells} : SubP C C := ⟨[], by rw [List.append_nil]⟩
theorem SubP.cons {x : Addr × Cell} {C0 C : Cells} (h : SubP C0 C) : SubP (x :: C0) (x :: C) := by
  obtain ⟨R, h⟩ := h
  exact ⟨R, List.Perm.cons _ h⟩
theorem SubP.dom {C0 C : Cells} (h : SubP C0 C) {a : Addr} (m : a ∈ dom C0) : a ∈ dom C := by
  obtain ⟨R, h⟩ := h
  refine (h.map (·.1)).symm.subset ?_
  rw [List.map_append]
  exact List.mem_append_left _ m
theorem XSat.sub {N : Addr → Prop} {x : Exn} {C C0 C' : Cells} {d : Option Addr} (h : XSat N x C d C') (s : SubP C0 C) : ∃ C3, XSat N x C0 d C3 ∧ SubP C3 C' := by
  unfold XSat at *
  split at h
  · obtain ⟨h1, rfl⟩ := h; exact ⟨_, ⟨h1, rfl⟩, s⟩
  · obtain ⟨a, h1, rfl, hn⟩ := h; exact ⟨_, ⟨a, h1, rfl, hn⟩, s.cons⟩
theorem CSat.subp {C0 : Cells} (s : CSat K C H F) (h : SubP C0 C) : CSat K C0 H F := by
  obtain ⟨R, h⟩ := h
  exact (s.perm h).sub (List.sublist_append_left _ _)
theorem Post.subp {C0 : Cells} (p : Post C F H C1 F' H') (h : SubP C0 C1) : Post C F H C0 F' H' := ⟨p.kx, p.keep, p.nw, fun a m => p.new a (h.dom m), p.st⟩

/-! ### calls -/
def EvX (K : PySem.W.Frag) (W : WX) (te : TE) (Γ : Gam) (C : Cells) (x : Exn) (C' : Cells) : Prop := ∀ σ H F, Sat K Γ C σ H F → ∀ Q : VK,
  (∀ d C'' H' F', XSat (frH H) x C' d C'' → Post C F H C'' F' H' → Sat K Γ C'' σ H' F' → W (.ref (clOf K x.cls)) d σ H') → te σ H Q
/-- a promise used at given values -/
theorem use_ret {φ : Fam} {Q : VK} {E : XK} {vs : List V} (hφ : φ ⟨ds, Ci, .ret d Co⟩) (hC : C.Perm (Ci ++ R)) (l : Le F H) (s : CSat K C H F) (r : Reps K F ds vs)
    (q : ∀ v H' F', Post C F H (Co ++ R) F' H' → Le F' H' → CSat K (Co ++ R) H' F' → Rep K F' d v → Q v H') : spF K φ vs H Q E := by
  refine ⟨_, F, hφ, r, l, (s.perm hC).sub (List.sublist_append_left _ _), fun v H' F' p l' s' r' => ?_⟩
  obtain ⟨p2, s2⟩ := frame hC s p l' s'
  exact q v H' F' p2 l' s2 r'
theorem use_new {φ : Fam} {Q : VK} {E : XK} {vs : List V} (hφ : φ ⟨ds, Ci, .new c Co⟩) (hC : C.Perm (Ci ++ R)) (l : Le F H) (s : CSat K C H F) (r : Reps K F ds vs)
    (q : ∀ a H' F', Post C F H ((a, c) :: (Co ++ R)) F' H' → Le F' H' → CSat K ((a, c) :: (Co ++ R)) H' F' → H a = none → Q (.ref a) H') : spF K φ vs H Q E := by
  refine ⟨_, F, hφ, r, l, (s.perm hC).sub (List.sublist_append_left _ _), fun a H' F' p l' s' r' => ?_⟩
  obtain ⟨p2, s2⟩ := frame hC s p l' s'
  exact q a H' F' p2 l' s2 r'
theorem use_exc {φ : Fam} {Q : VK} {E : XK} {vs : List V} (hφ : φ ⟨ds, Ci, .exc x Co⟩) (hC : C.Perm (Ci ++ R)) (l : Le F H) (s : CSat K C H F) (r : Reps K F ds vs)
    (q : ∀ d C'' H' F', XSat (frH H) x (Co ++ R) d C'' → Post C F H C'' F' H' → Le F' H' → CSat K C'' H' F' → E (.ref (clOf K x.cls)) d H') : spF K φ vs H Q E := by
  refine ⟨_, F, hφ, r, l, (s.perm hC).sub (List.sublist_append_left _ _), fun d C'' H' F' x' p l' s' => ?_⟩
  obtain ⟨p2, s2⟩ := frame hC s p l' s'
  exact q d _ H' F' x'.app p2 l' s2

/-- a new instance's cell -/
theorem make_pre {Cn : Str} {a dx : Addr} (hc : hasCls K Cn) (l : Le F H) (s : CSat K C H F) (h1 : H a = none) (h2 : H dx = none) (h3 : dx ≠ a) : Post C F H ((a, .ins Cn []) :: C) F (upd (upd H dx (.own a)) a (.ins (clOf K Cn) dx [])) ∧
    Le F (upd (upd H dx (.own a)) a (.ins (clOf K Cn) dx [])) ∧ CSat K ((a, .ins Cn []) :: C) (upd (upd H dx (.own a)) a (.ins (clOf K Cn) dx [])) F := by
  have st : ∀ b u, H b = some u → upd (upd H dx (.own a)) a (.ins (clOf K Cn) dx []) b = some u := fun b u e => by
    rw [upd_ne (ne_of_none e h1), upd_ne (ne_of_none e h2)]
    exact e
  refine ⟨⟨Kx.refl F, fun b u _ e => .inl (st b u e), fun _ _ _ h => h, fun b hb => ?_, fun b hb => ?_⟩, fun b u e => ?_, ?_⟩
  · rcases List.mem_cons.1 hb with z | z
    · rw [z]
      exact .inr h1
    · exact .inl z
  · cases e : H b with
    | none => rfl
    | some u =>
      rw [st b u e] at hb
      cases hb
  · rcases l b u e with z | ⟨od, k, z1, z2⟩
    · exact .inl (st b u z)
    · exact .inr ⟨od, k, z1, st b _ z2⟩
  · refine CSat.cons ⟨s.nd, fun b k hb => ?_⟩ (l.none h1) upd_same ⟨dx, [], rfl, repF_nil.2 rfl, hc⟩ (s.notin h1)
    obtain ⟨g1, u, g2, g3⟩ := s.at_ b k hb
    exact ⟨g1, u, st b u g2, g3⟩
end

/-! ### statements -/
/-- the anchor of a run: cells, knowledge, heap as they were; P: what stood at the def's entry, I: the cells that it was given -/
structure Ent where
  C : Cells
  F : Hp
  H : Hp
  P : Addr → Prop
  I : List Addr
  hP : ∀ a, P a → ∃ o, H a = some o
  hI : ∀ a, a ∈ I → P a
theorem noP {e : Ent} {C : Cells} {F H : Hp} (p : Post e.C e.F e.H C F H) {a : Addr} (h : H a = none) : ¬ e.P a := fun z => by
  obtain ⟨o, q⟩ := e.hP a z
  rw [p.st a h] at q
  cases q
theorem XSat.np {e : Ent} {C : Cells} {F H : Hp} {x : Exn} {C1 C' : Cells} {d : Option Addr} (h : XSat (frH H) x C1 d C') (p : Post e.C e.F e.H C F H) : XSat (fun a => ¬ e.P a) x C1 d C' := h.imp fun a q => noP p q
structure AtF (K : PySem.W.Frag) (e : Ent) (Γ : Gam) (C : Cells) (σ : L2.St) (H F : Hp) : Prop where
  po : Post e.C e.F e.H C F H
  sa : Sat K Γ C σ H F
  ci : ∀ a, a ∈ dom C → a ∈ e.I ∨ ¬ e.P a
def At (K : PySem.W.Frag) (e : Ent) (Γ : Gam) (C : Cells) (σ : L2.St) (H : Hp) : Prop := ∃ F, AtF K e Γ C σ H F
theorem AtF.step {K : PySem.W.Frag} {e : Ent} {Γ Γ1 : Gam} {C C1 : Cells} {σ σ1 : L2.St} {H F H1 F1 : Hp} (a : AtF K e Γ C σ H F) (p : Post C F H C1 F1 H1) (s : Sat K Γ1 C1 σ1 H1 F1) : AtF K e Γ1 C1 σ1 H1 F1 :=
  ⟨a.po.trans p, s, fun b m => by
    rcases p.new b m with z | z
    · exact a.ci b z
    · exact .inr (noP a.po z)⟩
/-- what is allowed behind a statement -/
structure Bd where
  nx : Gam → Cells → Prop
  rt : Dat → Cells → Prop
  rn : Cell → Cells → Prop
  bk : Gam → Cells → Prop
  ct : Gam → Cells → Prop
  xc : Exn → Gam → Cells → Prop
structure EndsOk (K : PySem.W.Frag) (e : Ent) (B : Bd) (D : L2.Ends) (W : WX) : Prop where
  nx : ∀ Γ C σ H, B.nx Γ C → At K e Γ C σ H → D.nx σ H
  rt : ∀ d C v H F, B.rt d C → Post e.C e.F e.H C F H → Le F H → CSat K C H F → Rep K F d v → D.rt v H
  rn : ∀ c C a H F, B.rn c C → Post e.C e.F e.H ((a, c) :: C) F H → Le F H → CSat K ((a, c) :: C) H F → ¬ e.P a → D.rt (.ref a) H
  bk : ∀ Γ C σ H, B.bk Γ C → At K e Γ C σ H → D.bk σ H
  ct : ∀ Γ C σ H, B.ct Γ C → At K e Γ C σ H → D.ct σ H
  xc : ∀ x Γ C σ d C'' H F, B.xc x Γ C → XSat (fun a => ¬ e.P a) x C d C'' → AtF K e Γ C'' σ H F → W (.ref (clOf K x.cls)) d σ H
def Run (K : PySem.W.Frag) (W : WX) (ts : TS) (e : Ent) (Γ : Gam) (C : Cells) (B : Bd) : Prop := ∀ σ H D, At K e Γ C σ H → EndsOk K e B D W → ts D σ H

section
variable {K : PySem.W.Frag} {Γ Γ' : Gam} {C C1 C2 R : Cells} {te ta tb : TE} {tt : TT} {d d1 : Dat} {c : Cell} {W : WX} {x : Exn} {e : Ent} {B : Bd} {t u : TS} {i : Nat} {b : Bool} {g : TG}

/-- the anchor is moved to here -/
def Ent.here (e : Ent) {K : PySem.W.Frag} {Γ : Gam} {C : Cells} {σ : L2.St} {H F : Hp} (a : AtF K e Γ C σ H F) : Ent := ⟨C, F, H, e.P, e.I, fun b z => by
  obtain ⟨o, q⟩ := e.hP b z
  cases h : H b with
  | none => rw [a.po.st b h] at q; cases q
  | some o => exact ⟨o, rfl⟩, e.hI⟩
theorem AtF.back {σ σ1 : L2.St} {H F H1 F1 : Hp} (a : AtF K e Γ C σ H F) (b : AtF K (e.here a) Γ' C1 σ1 H1 F1) : AtF K e Γ' C1 σ1 H1 F1 := ⟨a.po.trans b.po, b.sa, b.ci⟩
theorem AtF.now {σ : L2.St} {H F : Hp} (a : AtF K e Γ C σ H F) : AtF K (e.here a) Γ C σ H F := ⟨Post.refl, a.sa, a.ci⟩
theorem EndsOk.here {D : L2.Ends} {σ : L2.St} {H F : Hp} (E : EndsOk K e B D W) (a : AtF K e Γ C σ H F) : EndsOk K (e.here a) B D W :=
  ⟨fun Γ C σ H h ⟨F, q⟩ => E.nx Γ C σ H h ⟨F, a.back q⟩, fun d C v H F h q => E.rt d C v H F h (a.po.trans q), fun c C b H F h q => E.rn c C b H F h (a.po.trans q),
    fun Γ C σ H h ⟨F, q⟩ => E.bk Γ C σ H h ⟨F, a.back q⟩, fun Γ C σ H h ⟨F, q⟩ => E.ct Γ C σ H h ⟨F, a.back q⟩, fun x Γ C σ d C'' H F h z q => E.xc x Γ C σ d C'' H F h z (a.back q)⟩

theorem r_seq (h : Run K W t e Γ C { B with nx := fun Γ' C' => Run K W u e Γ' C' B }) : Run K W (tSeq t u) e Γ C B := fun σ H D a E =>
  h σ H { D with nx := u D } a ⟨fun Γ' C' σ' H' r a' => r σ' H' D a' E, E.rt, E.rn, E.bk, E.ct, E.xc⟩
theorem r_next (h : B.nx Γ C) : Run K W tNext e Γ C B := fun σ H D a E => E.nx _ _ _ _ h a
theorem r_brk (h : B.bk Γ C) : Run K W tBreak e Γ C B := fun σ H D a E => E.bk _ _ _ _ h a
theorem r_cont (h : B.ct Γ C) : Run K W tCont e Γ C B := fun σ H D a E => E.ct _ _ _ _ h a
theorem r_never {h : False} : Run K W tNever e Γ C B := h.elim
theorem r_asg (h : Ev K te Γ C d C1) (k : B.nx (Γ.set i (some d)) C1) : Run K W (tAsg te (gName i)) e Γ C B := fun σ H D ⟨F, a⟩ E =>
  h σ H F a.sa _ fun v H1 F1 p1 s1 r1 => E.nx _ _ _ _ k ⟨F1, a.step p1 ⟨s1.le, s1.gam.set r1, s1.cel⟩⟩
theorem r_asgN (h : EvN K te Γ C c C1) (k : ∀ a, a ∉ e.I → B.nx (Γ.set i (some (dR a))) ((a, c) :: C1)) : Run K W (tAsg te (gName i)) e Γ C B := fun σ H D ⟨F, q⟩ E =>
  h σ H F q.sa _ fun a H1 F1 p1 s1 hn => E.nx _ _ _ _ (k a fun m => noP q.po hn (e.hI a m)) ⟨F1, q.step p1 ⟨s1.le, s1.gam.set (rep_v.2 rfl), s1.cel⟩⟩
theorem r_asgX (h : EvX K W te Γ C x C1) (k : B.xc x Γ C1) : Run K W (tAsg te g) e Γ C B := fun σ H D ⟨F, a⟩ E =>
  h σ H F a.sa _ fun dd C2 H1 F1 z1 p1 s1 => E.xc _ _ _ _ _ _ _ _ k (z1.np a.po) (a.step p1 s1)
theorem r_drop (h : Ev K te Γ C d C1) (k : B.nx Γ C1) : Run K W (tDrop te) e Γ C B := fun σ H D ⟨F, a⟩ E =>
  h σ H F a.sa _ fun v H1 F1 p1 s1 r1 => E.nx _ _ _ _ k ⟨F1, a.step p1 s1⟩
theorem r_dropX (h : EvX K W te Γ C x C1) (k : B.xc x Γ C1) : Run K W (tDrop te) e Γ C B := fun σ H D ⟨F, a⟩ E =>
  h σ H F a.sa _ fun dd C2 H1 F1 z1 p1 s1 => E.xc _ _ _ _ _ _ _ _ k (z1.np a.po) (a.step p1 s1)
theorem r_ret (h : Ev K te Γ C d C1) (k : B.rt d C1) : Run K W (tRet te) e Γ C B := fun σ H D ⟨F, a⟩ E =>
  h σ H F a.sa _ fun v H1 F1 p1 s1 r1 => E.rt _ _ _ _ _ k (a.po.trans p1) s1.le s1.cel r1
theorem r_retN (h : EvN K te Γ C c C1) (k : B.rn c C1) : Run K W (tRet te) e Γ C B := fun σ H D ⟨F, q⟩ E =>
  h σ H F q.sa _ fun a H1 F1 p1 s1 hn => E.rn _ _ _ _ _ k (q.po.trans p1) s1.le s1.cel (noP q.po hn)

/-- a cell of one's own is given back -/
theorem r_retC {a : Addr} (h : Ev K te Γ C (dR a) C1) (hp : Pick (a, c) C1 R) (hn : a ∉ e.I) (k : B.rn c R) : Run K W (tRet te) e Γ C B := fun σ H D ⟨F, q⟩ E =>
  h σ H F q.sa _ fun v H1 F1 p1 s1 r1 => by
    obtain rfl := rep_v.1 r1
    have q1 := q.step p1 s1
    refine E.rn _ _ _ _ _ k (q1.po.perm hp.perm) s1.le (s1.cel.perm hp.perm) ?_
    rcases q1.ci a (mem_dom hp.mem) with y | y
    · exact absurd y hn
    · exact y
/-- the same over cells in any order -/
theorem r_retC' {a : Addr} (h : Ev K te Γ C (dR a) C1) (hp : C1.Perm ((a, c) :: R)) (hn : a ∉ e.I) (k : B.rn c R) : Run K W (tRet te) e Γ C B := fun σ H D ⟨F, q⟩ E =>
  h σ H F q.sa _ fun v H1 F1 p1 s1 r1 => by
    obtain rfl := rep_v.1 r1
    have q1 := q.step p1 s1
    refine E.rn _ _ _ _ _ k (q1.po.perm hp) s1.le (s1.cel.perm hp) ?_
    rcases q1.ci a (mem_dom (hp.symm.subset List.mem_cons_self)) with y | y
    · exact absurd y hn
    · exact y
theorem r_retX (h : EvX K W te Γ C x C1) (k : B.xc x Γ C1) : Run K W (tRet te) e Γ C B := fun σ H D ⟨F, a⟩ E =>
  h σ H F a.sa _ fun dd C2 H1 F1 z1 p1 s1 => E.xc _ _ _ _ _ _ _ _ k (z1.np a.po) (a.step p1 s1)
theorem r_retNone (k : B.rt dN C) : Run K W tRetN e Γ C B := fun σ H D ⟨F, a⟩ E => E.rt _ _ _ _ _ k a.po a.sa.le a.sa.cel (rep_v.2 rfl)
theorem r_if (h : EvT K tt Γ C b C1) (h1 : b = true → Run K W t e Γ C1 B) (h2 : b = false → Run K W u e Γ C1 B) : Run K W (tIfS tt t u) e Γ C B := fun σ H D ⟨F, a⟩ E =>
  h σ H F a.sa _ fun H1 F1 p1 s1 => by
    cases b with
    | true => exact h1 rfl σ H1 D ⟨F1, a.step p1 s1⟩ E
    | false => exact h2 rfl σ H1 D ⟨F1, a.step p1 s1⟩ E
/-- raise, made without a dict -/
def tRs (W : WX) (t : L2.St → Hp → XK → Prop) : TS := fun _ σ H => t σ H fun cls d H' => W cls d σ H'
theorem r_raise {cn : Str} {t : L2.St → Hp → XK → Prop} (ht : ∀ σ H (Q : XK), Q (.ref (clOf K cn)) none H → t σ H Q) (k : B.xc ⟨cn, none⟩ Γ C) : Run K W (tRs W t) e Γ C B := fun σ H D ⟨F, a⟩ E =>
  ht σ H _ (E.xc _ _ _ _ _ _ _ _ k ⟨rfl, rfl⟩ a)
/-- less is known; less is allowed -/
theorem r_weak (h : Run K W t e Γ' C1 B) (hl : Γ'.length = Γ.length) (hg : ∀ (i : Nat) (d : Dat), Γ'[i]? = some (some d) → Γ[i]? = some (some d)) (hc : C1.Sublist C) : Run K W t e Γ C B := fun σ H D ⟨F, a⟩ E =>
  h σ H D ⟨F, a.po.sub hc, ⟨a.sa.le, a.sa.gam.less hl hg, a.sa.cel.sub hc⟩, fun b m => a.ci b ((hc.map _).subset m)⟩ E
theorem r_perm (h : Run K W t e Γ C1 B) (hc : C.Perm C1) : Run K W t e Γ C B := fun σ H D ⟨F, a⟩ E =>
  h σ H D ⟨F, a.po.perm hc, ⟨a.sa.le, a.sa.gam, a.sa.cel.perm hc⟩, fun b m => a.ci b ((hc.map (·.1)).symm.subset m)⟩ E
theorem EndsOk.imp {B' : Bd} {D : L2.Ends} (E : EndsOk K e B D W) (h1 : ∀ Γ C, B'.nx Γ C → B.nx Γ C) (h2 : ∀ d C, B'.rt d C → B.rt d C) (h3 : ∀ c C, B'.rn c C → B.rn c C) (h4 : ∀ Γ C, B'.bk Γ C → B.bk Γ C) (h5 : ∀ Γ C, B'.ct Γ C → B.ct Γ C) (h6 : ∀ x Γ C, B'.xc x Γ C → B.xc x Γ C) : EndsOk K e B' D W :=
  ⟨fun Γ C σ H h => E.nx Γ C σ H (h1 _ _ h), fun d C v H F h => E.rt d C v H F (h2 _ _ h), fun c C a H F h => E.rn c C a H F (h3 _ _ h), fun Γ C σ H h => E.bk Γ C σ H (h4 _ _ h), fun Γ C σ H h => E.ct Γ C σ H (h5 _ _ h), fun x Γ C σ d C'' H F h => E.xc x Γ C σ d C'' H F (h6 _ _ _ h)⟩
theorem r_imp {B' : Bd} (h : Run K W t e Γ C B') (h1 : ∀ Γ C, B'.nx Γ C → B.nx Γ C) (h2 : ∀ d C, B'.rt d C → B.rt d C) (h3 : ∀ c C, B'.rn c C → B.rn c C) (h4 : ∀ Γ C, B'.bk Γ C → B.bk Γ C) (h5 : ∀ Γ C, B'.ct Γ C → B.ct Γ C) (h6 : ∀ x Γ C, B'.xc x Γ C → B.xc x Γ C) : Run K W t e Γ C B :=
  fun σ H D a E => h σ H D a (E.imp h1 h2 h3 h4 h5 h6)

/-- data given to a target -/
def AsgT (K : PySem.W.Frag) (g : TG) (d : Dat) (Γ Γ' : Gam) : Prop := ∀ σ H F C v, Sat K Γ C σ H F → Rep K F d v → ∀ Q : L2.St → Hp → Prop, (∀ σ', Sat K Γ' C σ' H F → Q σ' H) → g v σ H Q
theorem at_name {Γ : Gam} : AsgT K (gName i) d Γ (Γ.set i (some d)) := fun σ H F C v s r Q q => q _ ⟨s.le, s.gam.set r, s.cel⟩
theorem r_asgT {Γ' : Gam} (h : Ev K te Γ C d C1) (hg : AsgT K g d Γ Γ') (k : B.nx Γ' C1) : Run K W (tAsg te g) e Γ C B := fun σ H D ⟨F, a⟩ E =>
  h σ H F a.sa _ fun v H1 F1 p1 s1 r1 => hg σ H1 F1 C1 v s1 r1 _ fun σ' s2 => E.nx _ _ _ _ k ⟨F1, a.step p1 s2⟩

theorem reps_len {F : Hp} : ∀ {ds : List Dat} {vs : List V}, Reps K F ds vs → ds.length = vs.length
  | [], vs, h => by rw [reps_nil.1 h] <;> rfl
  | d :: ds, vs, h => by
    obtain ⟨v, r, rfl, _, h2⟩ := reps_cons.1 h
    rw [List.length_cons, List.length_cons, reps_len h2]
theorem reps_get {F : Hp} : ∀ {ds : List Dat} {vs : List V} {i : Nat} {v : V}, Reps K F ds vs → vs[i]? = some v → ∃ d, ds[i]? = some d ∧ Rep K F d v
  | [], vs, i, v, h, e => by rw [reps_nil.1 h] at e; simp at e
  | d :: ds, vs, i, v, h, e => by
    obtain ⟨w, r, rfl, h1, h2⟩ := reps_cons.1 h
    cases i with
    | zero => simp at e; subst e; exact ⟨d, rfl, h1⟩
    | succ i => simp at e; obtain ⟨d', q1, q2⟩ := reps_get h2 e; exact ⟨d', by simpa using q1, q2⟩
theorem reps_get' {F : Hp} : ∀ {ds : List Dat} {vs : List V} {i : Nat} {d : Dat}, Reps K F ds vs → ds[i]? = some d → ∃ v, vs[i]? = some v ∧ Rep K F d v
  | [], vs, i, v, h, e => by simp at e
  | d :: ds, vs, i, v, h, e => by
    obtain ⟨w, r, rfl, h1, h2⟩ := reps_cons.1 h
    cases i with
    | zero => simp at e; subst e; exact ⟨w, rfl, h1⟩
    | succ i => simp at e; obtain ⟨d', q1, q2⟩ := reps_get' h2 e; exact ⟨d', by simpa using q1, q2⟩

/-- while -/
theorem r_while (I : Nat → Gam → Cells → Prop) (m0 : Nat) (h0 : I m0 Γ C)
    (hs : ∀ (m : Nat) Γ' C', I m Γ' C' → ∃ b C2, EvT K tt Γ' C' b C2 ∧ (b = true → Run K W t e Γ' C2 { B with nx := fun Γ3 C3 => ∃ m', m' < m ∧ I m' Γ3 C3, ct := fun Γ3 C3 => ∃ m', m' < m ∧ I m' Γ3 C3, bk := B.nx }) ∧ (b = false → B.nx Γ' C2)) :
    Run K W (tWhile tt t) e Γ C B := fun σ H D a E =>
  ⟨fun m σ' H' => ∃ Γ' C', I m Γ' C' ∧ At K e Γ' C' σ' H', ⟨m0, Γ, C, h0, a⟩, fun m σ' H' ⟨Γ', C', hI, F', a'⟩ => by
    obtain ⟨b, C2, hb, h1, h2⟩ := hs m Γ' C' hI
    refine hb σ' H' F' a'.sa _ fun H1 F1 p1 s1 => ?_
    cases b with
    | true =>
      refine ⟨fun σ2 H2 => ∃ m', m' < m ∧ ∃ Γ' C', I m' Γ' C' ∧ At K e Γ' C' σ2 H2, fun _ _ h => h, ?_⟩
      exact h1 rfl σ' H1 _ ⟨F1, a'.step p1 s1⟩ ⟨fun Γ3 C3 σ3 H3 ⟨m', q1, q2⟩ a3 => ⟨m', q1, Γ3, C3, q2, a3⟩, E.rt, E.rn, fun Γ3 C3 σ3 H3 q a3 => E.nx _ _ _ _ q a3, fun Γ3 C3 σ3 H3 ⟨m', q1, q2⟩ a3 => ⟨m', q1, Γ3, C3, q2, a3⟩, E.xc⟩
    | false => exact E.nx _ _ _ _ (h2 rfl) ⟨F1, a'.step p1 s1⟩⟩
end

/-! ### a def -/
def Bof (o : Out) : Bd where
  nx := fun _ C => match o with | .ret d0 C0 => d0 = dN ∧ SubP C0 C | _ => False
  rt := fun d C => match o with | .ret d0 C0 => d0 = d ∧ SubP C0 C | _ => False
  rn := fun c C => match o with | .new c0 C0 => c0 = c ∧ SubP C0 C | .ret d0 C0 => d0 = fz c ∧ SubP C0 C | _ => False
  bk := fun _ _ => False
  ct := fun _ _ => False
  xc := fun x _ C => match o with | .exc x0 C0 => x0 = x ∧ SubP C0 C | _ => False
abbrev wD (E : XK) : WX := fun c d _ H => E c d H
def gam0 (N : List Str) (ds : List Dat) : Gam := ds.map some ++ List.replicate (N.length - ds.length) none
abbrev cxD (P : Program) (w : World) (K : PySem.W.Frag) (mg : Str → Option Value) (base : Heap) (N : List Str) (qual : Str) (st : Stmt) (f : Addr) (cdv : Value) (A : Around) (outer : List Env) (s : Shared) (H : Hp) (E : XK) : Cx :=
  cxOf (L2.CX P w) P w K mg base N qual (defScope st) f cdv A outer s H E
theorem tkD {P : Program} {w : World} {K : PySem.W.Frag} {mg : Str → Option Value} {base : Heap} {N : List Str} {qual : Str} {st : Stmt} {f : Addr} {cdv : Value} {A : Around} {outer : List Env} {s : Shared} {H : Hp} {E : XK} :
    Takes (cxD P w K mg base N qual st f cdv A outer s H E) (wD E) := takes_of rfl rfl rfl rfl
section
variable {P : Program} {w : World} {K : PySem.W.Frag} {mg : Str → Option Value} {base : Heap} {F H : Hp}
theorem gsat0 {N : List Str} {ds : List Dat} {vs : List V} (r : Reps K F ds vs) : GSat K (gam0 N ds) (L2.start N vs) F := by
  have hl := reps_len r
  refine ⟨by unfold gam0 L2.start; simp [hl], fun i d h => ?_⟩
  unfold gam0 at h
  unfold L2.start
  by_cases hi : i < ds.length
  · rw [List.getElem?_append_left (by simpa using hi), List.getElem?_map] at h
    cases q : ds[i]? with
    | none => rw [q] at h; cases h
    | some d' =>
      rw [q] at h
      cases h
      obtain ⟨v, h1, h2⟩ := reps_get' r q
      exact ⟨v, by rw [List.getElem?_append_left (by rw [List.length_map, ← hl]; exact hi), List.getElem?_map, h1] <;> rfl, h2⟩
  · rw [List.getElem?_append_right (by simpa using hi), List.getElem?_replicate] at h
    split at h
    · cases h
    · cases h
/-- THE RULE for a def -/
theorem def_ok {name qual : Str} {st : Stmt} {f : Addr} {fd : FuncData} {N ps : List Str} {k : Nat} {φ : Fam} (Fn : Fun K name qual st f fd) (S : FnScope N ps (defScope st)) (len : ∀ p, φ p → p.args.length = ps.length)
    (hb : ∀ (cdv : Value) (A : Around) (outer : List Env) (s : Shared) (H : Hp) (E : XK), Room k (A.deeper (PyProof.Rows.envOfC qual (defScope st) s.heap.objs.size f cdv)) →
      ∃ t, PSs (cxD P w K mg base N qual st f cdv A outer s H E) (defBody st) t ∧ ∀ p, φ p → ∀ e : Ent, e.I = dom p.cin → Run K (wD E) t e (gam0 N p.args) p.cin (Bof p.out)) :
    FnOk P w K mg base (L2.CX P w) (k + 1) f fd ps (spF K φ) := by
  refine Fn.okX S (fun vs H Q E ⟨p, F, h1, h2, _⟩ => by rw [← reps_len h2]; exact len p h1) fun cdv A outer s H vs Q E hr hsp => ?_
  obtain ⟨t, h1, h2⟩ := hb cdv A outer s H E hr
  refine ⟨t, h1, ?_⟩
  obtain ⟨p, F, hp, hv, l, c, o⟩ := hsp
  refine h2 p hp ⟨p.cin, F, H, fun a => ∃ o, H a = some o, dom p.cin, fun _ h => h, fun a m => c.ex m⟩ rfl _ _ _ ⟨F, Post.refl, ⟨l, gsat0 hv, c⟩, fun a m => .inl m⟩ ?_
  obtain ⟨args, cin, out⟩ := p
  cases out with
  | ret d C' =>
    refine ⟨fun Γ C σ H' h ⟨F', q'⟩ => ?_, fun d' C v H' F' h q l' c' r => ?_, fun c'' C a H' F' h q l' c' r => ?_, fun _ _ _ _ h => h.elim, fun _ _ _ _ h => h.elim, fun _ _ _ _ _ _ _ _ h => h.elim⟩
    · obtain ⟨rfl, hs⟩ := h
      exact o .non H' F' (q'.po.subp hs) q'.sa.le (q'.sa.cel.subp hs) (rep_v.2 rfl)
    · obtain ⟨rfl, hs⟩ := h
      exact o v H' F' (q.subp hs) l' (c'.subp hs) r
    · obtain ⟨rfl, hs⟩ := h
      obtain ⟨F2, e, l2, c2, r2, fr⟩ := freeze1 c' l'
      refine o (.ref a) H' F2 ⟨q.kx.trans e, q.keep, fun b h1 ⟨u, h2⟩ h3 => ?_, fun b hb => q.new b (List.mem_cons_of_mem _ (hs.dom hb)), q.st⟩ l2 (c2.subp hs) r2
      have z : b ≠ a := fun q => by
        subst q
        exact r ⟨u, h2⟩
      rw [fr b z]
      exact q.nw b h1 ⟨u, h2⟩ h3
  | new c0 C' =>
    refine ⟨fun _ _ _ _ h _ => h.elim, fun _ _ _ _ _ h => h.elim, fun c'' C a H' F' h q l' c' r => ?_, fun _ _ _ _ h => h.elim, fun _ _ _ _ h => h.elim, fun _ _ _ _ _ _ _ _ h => h.elim⟩
    obtain ⟨rfl, hs⟩ := h
    refine o a H' F' (q.subp hs.cons) l' (c'.subp hs.cons) ?_
    cases z : H a with
    | none => rfl
    | some u => exact absurd ⟨u, z⟩ r
  | exc x C' =>
    refine ⟨fun _ _ _ _ h _ => h.elim, fun _ _ _ _ _ h => h.elim, fun _ _ _ _ _ h => h.elim, fun _ _ _ _ h => h.elim, fun _ _ _ _ h => h.elim, fun x' Γ C σ d C'' H' F' h z q => ?_⟩
    obtain ⟨rfl, hs⟩ := h
    obtain ⟨C3, z2, hs2⟩ := z.sub hs
    exact o d C3 H' F' (z2.imp fun a h => Classical.byContradiction fun q => h (Option.ne_none_iff_exists'.1 q)) (q.po.subp hs2) q.sa.le (q.sa.cel.subp hs2)
end
end Dm
end

section
set_option maxRecDepth 100000
set_option maxHeartbeats 4000000
/-! Dm3: what is walked (EvI), for over anything, list and dict comprehensions. -/
namespace Dm
open PySem L2

/-- J walks the data ds, while G holds of the heap -/
structure ItD (K : PySem.W.Frag) (J : It) (G : Hp → Prop) (F : Hp) (ds : List Dat) : Prop where
  keep : ∀ F' H C F'' H' C', Kx F F' → CSat K C H F' → Post C F' H C' F'' H' → G H → G H'
  go : ∀ F' H, Kx F F' → Le F' H → G H → ∀ i, i < ds.length → J.go i H
  stop : ∀ F' H, Kx F F' → Le F' H → G H → J.stop ds.length H
  yld : ∀ F' H C, Kx F F' → Le F' H → CSat K C H F' → ∀ i x H', i < ds.length → J.yld i H x H' → ∃ d F'', ds[i]? = some d ∧ Post C F' H C F'' H' ∧ Le F'' H' ∧ CSat K C H' F'' ∧ Rep K F'' d x
def EvI (K : PySem.W.Frag) (wi : TI) (Γ : Gam) (C : Cells) (ds : List Dat) (C' : Cells) : Prop := ∀ σ H F, Sat K Γ C σ H F → ∀ R : It → Hp → Prop,
  (∀ J G H' F', Post C F H C' F' H' → Sat K Γ C' σ H' F' → ItD K J G F' ds → G H' → R J H') → wi σ H R
abbrev gT : Hp → Prop := fun _ => True

section
variable {K : PySem.W.Frag} {Γ Γ' : Gam} {C C1 C2 R : Cells} {te ta tb tl : TE} {tt : TT} {d d1 : Dat} {c : Cell} {W : WX} {x : Exn} {e : Ent} {B : Bd} {t u : TS} {i : Nat} {b : Bool} {g : TG} {wi : TI} {ds : List Dat} {F H : Hp}

/-! ### sources -/
theorem itd_list {a : Addr} {vs : List V} (h : F a = some (.lst vs)) (hr : Reps K F ds vs) : ItD K (Itl K a) gT F ds := by
  have at_ : ∀ F' H, Kx F F' → Le F' H → SqL K H a vs := fun F' H k l => SqL.of (l.lst (k _ _ h))
  refine ⟨fun _ _ _ _ _ _ _ _ _ _ => trivial, fun F' H k l _ i hi => ?_, fun F' H k l _ => ⟨vs, at_ F' H k l, by rw [reps_len hr]; exact Nat.le_refl _⟩, fun F' H C k l c i x H' _ hy => ?_⟩
  · have hv : i < vs.length := by rw [← reps_len hr]; exact hi
    exact ⟨vs, vs[i], at_ F' H k l, List.getElem?_eq_getElem hv⟩
  · obtain ⟨rfl, hx⟩ := hy
    obtain ⟨d, h1, h2⟩ := reps_get hr (hx vs (at_ F' H' k l))
    exact ⟨d, F', h1, Post.refl, l, c, h2.kx k⟩
theorem itd_tup {a : Addr} {vs : List V} (h : F a = some (.tup vs)) (hr : Reps K F ds vs) : ItD K (Itt K a) gT F ds := by
  have at_ : ∀ F' H, Kx F F' → Le F' H → SqT K H a vs := fun F' H k l => SqT.of (l.tup (k _ _ h))
  refine ⟨fun _ _ _ _ _ _ _ _ _ _ => trivial, fun F' H k l _ i hi => ?_, fun F' H k l _ => ⟨vs, at_ F' H k l, by rw [reps_len hr]; exact Nat.le_refl _⟩, fun F' H C k l c i x H' _ hy => ?_⟩
  · have hv : i < vs.length := by rw [← reps_len hr]; exact hi
    exact ⟨vs, vs[i], at_ F' H k l, List.getElem?_eq_getElem hv⟩
  · obtain ⟨rfl, hx⟩ := hy
    obtain ⟨d, h1, h2⟩ := reps_get hr (hx vs (at_ F' H' k l))
    exact ⟨d, F', h1, Post.refl, l, c, h2.kx k⟩
theorem ei_list (h : Ev K tl Γ C (.lst ds) C1) : EvI K (iList K tl) Γ C ds C1 := fun σ H F s R q => h σ H F s _ fun v H1 F1 p1 s1 r1 => by
  obtain ⟨a, vs, rfl, hl, hr⟩ := rep_lst.1 r1
  exact ⟨a, rfl, ⟨vs, SqL.of (s1.le.lst hl)⟩, q _ _ H1 F1 p1 s1 (itd_list hl hr) trivial⟩
theorem ei_tup (h : Ev K tl Γ C (.tup ds) C1) : EvI K (iTup K tl) Γ C ds C1 := fun σ H F s R q => h σ H F s _ fun v H1 F1 p1 s1 r1 => by
  obtain ⟨a, vs, rfl, hl, hr⟩ := rep_tup.1 r1
  exact ⟨a, rfl, ⟨vs, SqT.of (s1.le.tup hl)⟩, q _ _ H1 F1 p1 s1 (itd_tup hl hr) trivial⟩
def rgD (lo : Int) (n : Nat) : List Dat := (List.range n).map fun i => dI (lo + (i : Nat))
theorem rgD_get {lo : Int} {n i : Nat} (h : i < n) : (rgD lo n)[i]? = some (dI (lo + (i : Nat))) := by
  unfold rgD
  rw [List.getElem?_map, List.getElem?_range h] <;> rfl
theorem rgD_len {lo : Int} {n : Nat} : (rgD lo n).length = n := by unfold rgD; simp
theorem itd_range {lo : Int} {n : Nat} : ItD K (Itr lo n) gT F (rgD lo n) := by
  refine ⟨fun _ _ _ _ _ _ _ _ _ _ => trivial, fun F' H k l _ i hi => ?_, fun F' H k l _ => ?_, fun F' H C k l c i x H' hi hy => ?_⟩
  · rw [rgD_len] at hi
    exact hi
  · rw [rgD_len]
    exact Nat.le_refl n
  · rw [rgD_len] at hi
    obtain ⟨rfl, rfl⟩ := hy
    exact ⟨_, F', rgD_get hi, Post.refl, l, c, rep_v.2 rfl⟩
theorem ei_range1 {ta : TA} {n : Int} (h : EvA K ta Γ C [dI n] C1) (hn : -100000 ≤ n ∧ n ≤ 100000) : EvI K (iRng1 ta) Γ C (rgD 0 n.toNat) C1 := fun σ H F s R q => h σ H F s _ fun vs H1 F1 p1 s1 r1 => by
  obtain ⟨v, r, rfl, h1, h2⟩ := reps_cons.1 r1
  obtain rfl := rep_v.1 h1
  obtain rfl := reps_nil.1 h2
  exact ⟨n, rfl, by omega, by omega, q _ _ H1 F1 p1 s1 itd_range trivial⟩
theorem ei_range2 {ta : TA} {lo hi : Int} (h : EvA K ta Γ C [dI lo, dI hi] C1) (hn : -100000 ≤ lo ∧ lo ≤ 100000 ∧ -100000 ≤ hi ∧ hi ≤ 100000) : EvI K (iRng2 ta) Γ C (rgD lo (hi - lo).toNat) C1 := fun σ H F s R q => h σ H F s _ fun vs H1 F1 p1 s1 r1 => by
  obtain ⟨v, r, rfl, h1, h2⟩ := reps_cons.1 r1
  obtain rfl := rep_v.1 h1
  obtain ⟨v2, r2, rfl, h3, h4⟩ := reps_cons.1 h2
  obtain rfl := rep_v.1 h3
  obtain rfl := reps_nil.1 h4
  exact ⟨lo, hi, rfl, ⟨by omega, by omega, by omega, by omega⟩, q _ _ H1 F1 p1 s1 itd_range trivial⟩
/-- the signs of a text -/
def sgD (z : Str) : List Dat := z.cps.toList.map fun c => dS ⟨#[c]⟩
theorem ei_str {z : Str} (h : Ev K tl Γ C (dS z) C1) : EvI K (iStr tl) Γ C (sgD z) C1 := fun σ H F s R q => h σ H F s _ fun v H1 F1 p1 s1 r1 => by
  obtain rfl := rep_v.1 r1
  refine ⟨z, rfl, q _ gT H1 F1 p1 s1 ⟨fun _ _ _ _ _ _ _ _ _ _ => trivial, fun F' H k l _ i hi => ?_, fun F' H k l _ => ?_, fun F' H C k l c i x H' hi hy => ?_⟩ trivial⟩
  · unfold sgD at hi
    show i < z.cps.size
    simpa using hi
  · show z.cps.size ≤ (sgD z).length
    unfold sgD
    simp
  · obtain ⟨rfl, c', hc, rfl⟩ := hy
    refine ⟨_, F', ?_, Post.refl, l, c, rep_v.2 rfl⟩
    unfold sgD
    rw [List.getElem?_map, Array.getElem?_toList, hc] <;> rfl
/-- a new tuple on the way -/
theorem post_tup {T : Addr} {xs : List V} {F H : Hp} (l : Le F H) (s : CSat K C H F) (hn : H T = none) : Post C F H C (upd F T (.tup xs)) (upd H T (.tup xs)) ∧ Le (upd F T (.tup xs)) (upd H T (.tup xs)) ∧ CSat K C (upd H T (.tup xs)) (upd F T (.tup xs)) ∧ Kx F (upd F T (.tup xs)) := by
  have hF := l.none hn
  have kx : Kx F (upd F T (.tup xs)) := Kx.upd hF
  refine ⟨⟨kx, fun a o _ e => .inl ?_, fun a _ ⟨o, e⟩ h => ?_, fun a h => .inl h, fun a h => ?_⟩, fun a o e => ?_, ⟨s.nd, fun a c m => ?_⟩, kx⟩
  · rw [upd_ne (ne_of_none e hn)]
    exact e
  · rw [upd_ne (ne_of_none e hn)]
    exact h
  · cases q : H a with
    | none => rfl
    | some o =>
      rw [upd_ne (ne_of_none q hn), q] at h
      cases h
  · by_cases z : a = T
    · subst z
      rw [upd_same] at e ⊢
      exact .inl e
    · rw [upd_ne z] at e ⊢
      exact l a o e
  · obtain ⟨g1, o, g2, g3⟩ := s.at_ a c m
    have z := ne_of_none g2 hn
    exact ⟨by rw [upd_ne z]; exact g1, o, by rw [upd_ne z]; exact g2, g3.kx kx⟩
theorem rep_pair {T : Addr} {x y : V} {d e : Dat} {F F' : Hp} (h : F' T = some (.tup [x, y])) (k : Kx F F') (h1 : Rep K F d x) (h2 : Rep K F e y) : Rep K F' (.tup [d, e]) (.ref T) :=
  rep_tup.2 ⟨T, _, rfl, h, reps_cons.2 ⟨x, [y], rfl, h1.kx k, reps_cons.2 ⟨y, [], rfl, h2.kx k, reps_nil.2 rfl⟩⟩⟩
/-- enumerate(list) -/
def enD (ds : List Dat) : List Dat := (List.range ds.length).map fun i => .tup [dI (i : Nat), ds.getD i dN]
theorem enD_get {i : Nat} (h : ds[i]? = some d) : (enD ds)[i]? = some (.tup [dI (i : Nat), d]) := by
  have hi := (List.getElem?_eq_some_iff.mp h).1
  unfold enD
  rw [List.getElem?_map, List.getElem?_range hi, Option.map_some, List.getD_eq_getElem?_getD, h] <;> rfl
theorem ei_enum {ta : TA} (h : EvA K ta Γ C [.lst ds] C1) : EvI K (iEnum K ta) Γ C (enD ds) C1 := fun σ H F s R q => h σ H F s _ fun vs H1 F1 p1 s1 r1 => by
  obtain ⟨v, r, rfl, h1, h2⟩ := reps_cons.1 r1
  obtain rfl := reps_nil.1 h2
  obtain ⟨a, xs, rfl, hl, hr⟩ := rep_lst.1 h1
  have len : (enD ds).length = ds.length := by unfold enD; simp
  have at_ : ∀ F' H, Kx F1 F' → Le F' H → SqL K H a xs := fun F' H k l => SqL.of (l.lst (k _ _ hl))
  refine ⟨a, xs, rfl, SqL.of (s1.le.lst hl), q _ gT H1 F1 p1 s1 ⟨fun _ _ _ _ _ _ _ _ _ _ => trivial, fun F' H k l _ i hi => ?_, fun F' H k l _ => ⟨xs, at_ F' H k l, by rw [len, reps_len hr]; exact Nat.le_refl _⟩, fun F' H C k l c i x H' hi hy => ?_⟩ trivial⟩
  · have hv : i < xs.length := by rw [← reps_len hr, ← len]; exact hi
    exact ⟨xs, xs[i], at_ F' H k l, List.getElem?_eq_getElem hv⟩
  · obtain ⟨T, y, rfl, hn, rfl, hx⟩ := hy
    obtain ⟨d, g1, g2⟩ := reps_get hr (hx xs (at_ F' H k l))
    obtain ⟨p, l', c', k'⟩ := post_tup (xs := [.int (i : Nat), y]) l c hn
    exact ⟨_, _, enD_get g1, p, l', c', rep_pair upd_same k' (rep_v.2 rfl) (g2.kx k)⟩
/-- zip(list, list) -/
def zpD (ds es : List Dat) : List Dat := (List.range (min ds.length es.length)).map fun i => .tup [ds.getD i dN, es.getD i dN]
theorem zpD_get {ds es : List Dat} {d e : Dat} {i : Nat} (h : ds[i]? = some d) (h' : es[i]? = some e) : (zpD ds es)[i]? = some (.tup [d, e]) := by
  have hi := (List.getElem?_eq_some_iff.mp h).1
  have hi' := (List.getElem?_eq_some_iff.mp h').1
  unfold zpD
  rw [List.getElem?_map, List.getElem?_range (by omega), Option.map_some, List.getD_eq_getElem?_getD, h, List.getD_eq_getElem?_getD, h'] <;> rfl
theorem ei_zip {ta : TA} {es : List Dat} (h : EvA K ta Γ C [.lst ds, .lst es] C1) : EvI K (iZip K ta) Γ C (zpD ds es) C1 := fun σ H F s R q => h σ H F s _ fun vs H1 F1 p1 s1 r1 => by
  obtain ⟨v, r, rfl, h1, h2⟩ := reps_cons.1 r1
  obtain ⟨v2, r2, rfl, h3, h4⟩ := reps_cons.1 h2
  obtain rfl := reps_nil.1 h4
  obtain ⟨a, xs, rfl, hl, hr⟩ := rep_lst.1 h1
  obtain ⟨b, ys, rfl, hl2, hr2⟩ := rep_lst.1 h3
  have len : (zpD ds es).length = min ds.length es.length := by unfold zpD; simp
  have e1 := reps_len hr
  have e2 := reps_len hr2
  have at1 : ∀ F' H, Kx F1 F' → Le F' H → SqL K H a xs := fun F' H k l => SqL.of (l.lst (k _ _ hl))
  have at2 : ∀ F' H, Kx F1 F' → Le F' H → SqL K H b ys := fun F' H k l => SqL.of (l.lst (k _ _ hl2))
  refine ⟨a, b, xs, ys, rfl, SqL.of (s1.le.lst hl), SqL.of (s1.le.lst hl2), q _ gT H1 F1 p1 s1 ⟨fun _ _ _ _ _ _ _ _ _ _ => trivial, fun F' H k l _ i hi => ?_, fun F' H k l _ => ⟨xs, ys, at1 F' H k l, at2 F' H k l, by rw [len]; omega⟩, fun F' H C k l c i x H' hi hy => ?_⟩ trivial⟩
  · rw [len] at hi
    exact ⟨xs, ys, xs[i]'(by omega), ys[i]'(by omega), at1 F' H k l, at2 F' H k l, List.getElem?_eq_getElem _, List.getElem?_eq_getElem _⟩
  · obtain ⟨T, x', y', rfl, hn, rfl, hx, hy⟩ := hy
    obtain ⟨d, g1, g2⟩ := reps_get hr (hx xs (at1 F' H k l))
    obtain ⟨d', g3, g4⟩ := reps_get hr2 (hy ys (at2 F' H k l))
    obtain ⟨p, l', c', k'⟩ := post_tup (xs := [x', y']) l c hn
    exact ⟨_, _, zpD_get g1 g3, p, l', c', rep_pair upd_same k' (g2.kx k) (g4.kx k)⟩
theorem repK_len : ∀ {kvs : List (Key × Dat)} {vs : List (Key × V)}, RepK K F kvs vs → kvs.length = vs.length
  | [], vs, h => by rw [repK_nil.1 h] <;> rfl
  | (k, d) :: ds, vs, h => by
    obtain ⟨v, r, rfl, _, h2⟩ := repK_cons.1 h
    rw [List.length_cons, List.length_cons, repK_len h2]
theorem repK_get : ∀ {kvs : List (Key × Dat)} {vs : List (Key × V)} {i : Nat} {k : Key} {v : V}, RepK K F kvs vs → vs[i]? = some (k, v) → ∃ d, kvs[i]? = some (k, d) ∧ Rep K F d v
  | [], vs, i, k, v, h, e => by rw [repK_nil.1 h] at e; simp at e
  | (k', d) :: ds, vs, i, k, v, h, e => by
    obtain ⟨w, r, rfl, h1, h2⟩ := repK_cons.1 h
    cases i with
    | zero => simp at e; obtain ⟨rfl, rfl⟩ := e; exact ⟨d, rfl, h1⟩
    | succ i => simp at e; obtain ⟨d', q1, q2⟩ := repK_get h2 e; exact ⟨d', by simpa using q1, q2⟩
def kD : Key → Dat
  | .inl i => dI i
  | .inr x => dS x
theorem kD_rep {F : Hp} (k : Key) : Rep K F (kD k) (kV k) := by
  cases k <;> exact rep_v.2 rfl
/-! a dict that is known may be locked: it stays so -/
def tLk (te : TE) : TE := fun σ H Q => te σ H fun x H1 => Q x H1 ∨ ∃ d kvs, x = .ref d ∧ H1 d = some (.dK kvs) ∧ ∀ od, Q x (upd H1 d (.frz od (.dK kvs)))
theorem pe_lk {X : Cx} {e : Expr} {te : TE} (h : PE X e te) : PE X e (tLk te) := by
  refine ⟨fun pins s σ H Q I hw => ?_⟩
  refine thn (h.run pins s σ H _ I hw) fun v s1 ⟨x, H1, I1, r1, q1⟩ => ?_
  rcases q1 with q | ⟨d, kvs, rfl, hd, q⟩
  · exact ⟨x, H1, I1, r1, q⟩
  · obtain ⟨od, I2⟩ := I1.lock hd trivial
    exact ⟨_, _, I2, r1, q od⟩
/-- the state behind the lock -/
theorem lock_sat {a : Addr} {kvs : List (Key × V)} {od : Obj} {σ : L2.St} {F H : Hp} (s : Sat K Γ C σ H F) (hF : F a = some (.dK kvs)) (hH : H a = some (.dK kvs)) :
    Post C F H C F (upd H a (.frz od (.dK kvs))) ∧ Sat K Γ C σ (upd H a (.frz od (.dK kvs))) F := by
  refine ⟨⟨Kx.refl F, fun b o _ e => ?_, fun _ _ _ h => h, fun b h => .inl h, fun b h => ?_⟩, fun b o e => ?_, s.gam, s.cel.nd, fun b c m => ?_⟩
  · by_cases z : b = a
    · subst z
      rw [hH] at e
      cases e
      exact .inr ⟨hF, kvs, od, rfl, upd_same⟩
    · exact .inl (by rw [upd_ne z]; exact e)
  · by_cases z : b = a
    · subst z
      rw [upd_same] at h
      cases h
    · rwa [upd_ne z] at h
  · by_cases z : b = a
    · subst z
      rw [hF] at e
      cases e
      exact .inr ⟨od, kvs, rfl, upd_same⟩
    · rw [upd_ne z]
      exact s.le b o e
  · obtain ⟨g1, o, g2, g3⟩ := s.cel.at_ b c m
    have z : b ≠ a := fun z => by
      subst z
      rw [hF] at g1
      cases g1
    exact ⟨g1, o, by rw [upd_ne z]; exact g2, g3⟩
theorem lk_of {kvs : List (Key × Dat)} (h : Ev K tl Γ C (.dK kvs) C1) {σ : L2.St} {H F : Hp} (s : Sat K Γ C σ H F) (Q : VK)
    (q : ∀ a vs od H' F', Post C F H C1 F' H' → Sat K Γ C1 σ H' F' → F' a = some (.dK vs) → RepK K F' kvs vs → H' a = some (.frz od (.dK vs)) → Q (.ref a) H') : tLk tl σ H Q := h σ H F s _ fun v H1 F1 p1 s1 r1 => by
  obtain ⟨a, vs, rfl, hF, hr⟩ := rep_dK.1 r1
  rcases s1.le _ _ hF with e | ⟨od, _, _, e⟩
  · refine .inr ⟨a, vs, rfl, e, fun od => ?_⟩
    obtain ⟨p2, s2⟩ := lock_sat (od := od) s1 hF e
    exact q a vs od _ F1 (p1.trans p2) s2 hF hr upd_same
  · exact .inl (q a vs od H1 F1 p1 s1 hF hr e)
theorem frz_stays {a : Addr} {vs : List (Key × V)} {od : Obj} {H H' F' : Hp} {C' : Cells} (p : Post C F H C' F' H') (hF : F a = some (.dK vs)) (hn : a ∉ dom C) (h : H a = some (.frz od (.dK vs))) : H' a = some (.frz od (.dK vs)) := by
  rcases p.keep a _ hn h with z | ⟨z, _⟩
  · exact z
  · rw [hF] at z
    cases z

/-- what G is of a locked dict -/
theorem keep_frz {a : Addr} {vs : List (Key × V)} {od : Obj} {F : Hp} (hF : F a = some (.dK vs)) : ∀ F' H C F'' H' C', Kx F F' → CSat K C H F' → Post C F' H C' F'' H' → H a = some (.frz od (.dK vs)) → H' a = some (.frz od (.dK vs)) :=
  fun F' H C F'' H' C' k c p h => frz_stays p (k _ _ hF) (fun m => by
    obtain ⟨⟨b, cc⟩, m1, m2⟩ := List.mem_map.1 m
    subst m2
    have := (c.at_ b cc m1).1
    rw [k _ _ hF] at this
    cases this) h
/-- for k in d -/
theorem ei_keys {kvs : List (Key × Dat)} (h : Ev K tl Γ C (.dK kvs) C1) : EvI K (iKeys (tLk tl)) Γ C (kvs.map fun p => kD p.1) C1 := fun σ H F s R q => lk_of h s _ fun a vs od H1 F1 p1 s1 hF hr hH => by
  have len := repK_len hr
  refine ⟨a, od, rfl, .inl ⟨vs, hH, q _ (fun H => H a = some (.frz od (.dK vs))) H1 F1 p1 s1 ⟨keep_frz hF, fun F' H k l g i hi => ⟨g, by rw [List.length_map] at hi; omega⟩, fun F' H k l g => ⟨g, by rw [List.length_map]; omega⟩, fun F' H C k l c i x H' hi hy => ?_⟩ hH⟩⟩
  obtain ⟨rfl, k', v', hk, rfl⟩ := hy
  obtain ⟨d, g1, g2⟩ := repK_get hr hk
  exact ⟨kD k', F', by rw [List.getElem?_map, g1] <;> rfl, Post.refl, l, c, kD_rep k'⟩
/-- for v in d.values() -/
theorem ei_vals {kvs : List (Key × Dat)} (h : Ev K tl Γ C (.dK kvs) C1) : EvI K (iVals (tLk tl)) Γ C (kvs.map (·.2)) C1 := fun σ H F s R q => lk_of h s _ fun a vs od H1 F1 p1 s1 hF hr hH => by
  have len := repK_len hr
  refine ⟨a, od, vs, rfl, hH, q _ (fun H => H a = some (.frz od (.dK vs))) H1 F1 p1 s1 ⟨keep_frz hF, fun F' H k l g i hi => ⟨g, by rw [List.length_map] at hi; omega⟩, fun F' H k l g => ⟨g, by rw [List.length_map]; omega⟩, fun F' H C k l c i x H' hi hy => ?_⟩ hH⟩
  obtain ⟨rfl, k', hk⟩ := hy
  obtain ⟨d, g1, g2⟩ := repK_get hr hk
  exact ⟨d, F', by rw [List.getElem?_map, g1] <;> rfl, Post.refl, l, c, g2.kx k⟩
/-- for k, v in d.items() -/
theorem ei_items {kvs : List (Key × Dat)} (h : Ev K tl Γ C (.dK kvs) C1) : EvI K (iItems (tLk tl)) Γ C (kvs.map fun p => .tup [kD p.1, p.2]) C1 := fun σ H F s R q => lk_of h s _ fun a vs od H1 F1 p1 s1 hF hr hH => by
  have len := repK_len hr
  refine ⟨a, od, vs, rfl, hH, q _ (fun H => H a = some (.frz od (.dK vs))) H1 F1 p1 s1 ⟨keep_frz hF, fun F' H k l g i hi => ⟨g, by rw [List.length_map] at hi; omega⟩, fun F' H k l g => ⟨g, by rw [List.length_map]; omega⟩, fun F' H C k l c i x H' hi hy => ?_⟩ hH⟩
  obtain ⟨T, k', v', hk, rfl, hn, rfl⟩ := hy
  obtain ⟨d, g1, g2⟩ := repK_get hr hk
  obtain ⟨p, l', c', kk⟩ := post_tup (xs := [kV k', v']) l c hn
  exact ⟨_, _, by rw [List.getElem?_map, g1] <;> rfl, p, l', c', rep_pair upd_same kk (kD_rep k') (g2.kx k)⟩

/-! ### targets -/
def AsgTs (K : PySem.W.Frag) (g : TGs) (ds : List Dat) (Γ Γ' : Gam) : Prop := ∀ σ H F C vs, Sat K Γ C σ H F → Reps K F ds vs → ∀ Q : L2.St → Hp → Prop, (∀ σ', Sat K Γ' C σ' H F → Q σ' H) → g vs σ H Q
theorem ats_nil : AsgTs K gNil [] Γ Γ := fun σ H F C vs s r Q q => ⟨reps_nil.1 r, q σ s⟩
theorem ats_cons {gs : TGs} {Γ2 : Gam} (h1 : AsgT K g d Γ Γ') (h2 : AsgTs K gs ds Γ' Γ2) : AsgTs K (gCons g gs) (d :: ds) Γ Γ2 := fun σ H F C vs s r Q q => by
  obtain ⟨v, r', rfl, r1, r2⟩ := reps_cons.1 r
  exact ⟨v, r', rfl, h1 σ H F C v s r1 _ fun σ1 s1 => h2 σ1 H F C r' s1 r2 _ fun σ2 s2 => q σ2 s2⟩
theorem at_tup {gs : TGs} {n : Nat} (h : AsgTs K gs ds Γ Γ') (hn : ds.length = n) : AsgT K (gTup K n gs) (.tup ds) Γ Γ' := fun σ H F C v s r Q q => by
  obtain ⟨a, vs, rfl, hl, hr⟩ := rep_tup.1 r
  exact ⟨a, vs, rfl, SqT.of (s.le.tup hl), (reps_len hr).symm.trans hn, h σ H F C vs s hr Q q⟩
theorem at_lst {gs : TGs} {n : Nat} (h : AsgTs K gs ds Γ Γ') (hn : ds.length = n) : AsgT K (gUnl K n gs) (.lst ds) Γ Γ' := fun σ H F C v s r Q q => by
  obtain ⟨a, vs, rfl, hl, hr⟩ := rep_lst.1 r
  exact ⟨a, vs, rfl, SqL.of (s.le.lst hl), (reps_len hr).symm.trans hn, h σ H F C vs s hr Q q⟩

/-! ### for over anything -/
theorem r_for {wi : TI} (h : EvI K wi Γ C ds C1) (I : Nat → Gam → Cells → Prop) (h0 : I 0 Γ C1)
    (hs : ∀ (e' : Ent) (i : Nat) (d : Dat) Γ' C', e'.I = e.I → ds[i]? = some d → I i Γ' C' → ∃ Γ2, AsgT K g d Γ' Γ2 ∧ Run K W t e' Γ2 C' { B with nx := I (i + 1), ct := I (i + 1), bk := B.nx })
    (hd : ∀ Γ' C', I ds.length Γ' C' → B.nx Γ' C') : Run K W (tFor wi g t) e Γ C B := fun σ H D ⟨F, a⟩ E =>
  h σ H F a.sa _ fun J G H1 F1 p1 s1 it g1 => by
    have a1 := a.step p1 s1
    have E1 := E.here a1
    refine ⟨fun i m σ' H' => i ≤ ds.length ∧ m = ds.length - i ∧ ∃ Γ' C', I i Γ' C' ∧ At K (e.here a1) Γ' C' σ' H', ⟨ds.length, Nat.zero_le _, by simp, Γ, C1, h0, F1, a1.now⟩, ?_⟩
    rintro i m σ' H' ⟨hi, rfl, Γ', C', hI, F', a'⟩
    have gG : G H' := it.keep F1 H1 C1 F' H' C' (Kx.refl F1) s1.cel a'.po g1
    by_cases hlt : i < ds.length
    · refine .inr ⟨it.go F' H' a'.po.kx a'.sa.le gG i hlt, fun σ2 H2 => i + 1 ≤ ds.length ∧ ∃ Γ' C', I (i + 1) Γ' C' ∧ At K (e.here a1) Γ' C' σ2 H2, fun σ2 H2 ⟨h1, h2⟩ => ⟨ds.length - (i + 1), by omega, h1, rfl, h2⟩, fun x H2 hy => ?_⟩
      obtain ⟨d, F2, hd1, p2, l2, c2, r2⟩ := it.yld F' H' C' a'.po.kx a'.sa.le a'.sa.cel i x H2 hlt hy
      obtain ⟨Γ2, ha, hR⟩ := hs (e.here a1) i d Γ' C' rfl hd1 hI
      have s2 : Sat K Γ' C' σ' H2 F2 := ⟨l2, a'.sa.gam.kx p2.kx, c2⟩
      refine ha σ' H2 F2 C' x s2 r2 _ fun σ3 s3 => ?_
      exact hR σ3 H2 _ ⟨F2, a'.step p2 s3⟩ ⟨fun Γ3 C3 σ3 H3 q a3 => ⟨hlt, Γ3, C3, q, a3⟩, E1.rt, E1.rn, fun Γ3 C3 σ3 H3 q a3 => E1.nx _ _ _ _ q a3, fun Γ3 C3 σ3 H3 q a3 => ⟨hlt, Γ3, C3, q, a3⟩, E1.xc⟩
    · have e0 : i = ds.length := by omega
      subst e0
      exact .inl ⟨it.stop F' H' a'.po.kx a'.sa.le gG, E1.nx _ _ _ _ (hd _ _ hI) ⟨F', a'⟩⟩

/-! ### comprehensions -/
theorem wipe_get : ∀ (vs : List Nat) (σ : L2.St) (k : Nat), (L2.wipe σ vs)[k]? = if k ∈ vs then (σ[k]?).map fun _ => none else σ[k]?
  | [], σ, k => by simp [L2.wipe]
  | v :: vs, σ, k => by
    show ((L2.wipe σ vs).set v none)[k]? = _
    by_cases q : v = k
    · subst q
      rw [if_pos List.mem_cons_self]
      by_cases hl : v < σ.length
      · rw [List.getElem?_set_self (by rw [L2.wipe_length]; exact hl), List.getElem?_eq_getElem hl] <;> rfl
      · rw [List.getElem?_eq_none (by rw [List.length_set, L2.wipe_length]; omega), List.getElem?_eq_none (by omega)] <;> rfl
    · rw [List.getElem?_set_ne q, wipe_get vs σ k]
      have : (k ∈ v :: vs) ↔ k ∈ vs := by
        rw [List.mem_cons]
        exact ⟨fun z => z.elim (fun y => absurd y.symm q) id, .inr⟩
      simp only [this]
theorem wipe_eq {σ σ' : L2.St} {vs : List Nat} (hl : σ.length = σ'.length) (h : ∀ k, k ∉ vs → σ[k]? = σ'[k]?) : L2.wipe σ vs = L2.wipe σ' vs := by
  apply List.ext_getElem?
  intro k
  rw [wipe_get, wipe_get]
  by_cases hk : k ∈ vs
  · rw [if_pos hk, if_pos hk]
    by_cases q : k < σ.length
    · rw [List.getElem?_eq_getElem q, List.getElem?_eq_getElem (by omega)] <;> rfl
    · rw [List.getElem?_eq_none (by omega), List.getElem?_eq_none (by omega)]
  · rw [if_neg hk, if_neg hk]
    exact h k hk
/-- an assignment of data to own slots -/
def AsgW (K : PySem.W.Frag) (g : TG) (d : Dat) (Γ : Gam) (vs : List Nat) (Γ2 : Gam) : Prop := ∀ σ H F C v, Sat K Γ C σ H F → Rep K F d v → ∀ Q : L2.St → Hp → Prop, (∀ σ2, L2.wipe σ2 vs = L2.wipe σ vs → Sat K Γ2 C σ2 H F → Q σ2 H) → g v (L2.wipe σ vs) H Q
def AsgsW (K : PySem.W.Frag) (g : TGs) (ds : List Dat) (Γ : Gam) (vs : List Nat) (Γ2 : Gam) : Prop := ∀ σ0 σ H F C us, L2.wipe σ vs = L2.wipe σ0 vs → Sat K Γ C σ H F → Reps K F ds us → ∀ Q : L2.St → Hp → Prop, (∀ σ2, L2.wipe σ2 vs = L2.wipe σ0 vs → Sat K Γ2 C σ2 H F → Q σ2 H) → g us σ H Q
theorem wipe_set {σ : L2.St} {vs : List Nat} {j : Nat} {y : Option V} (hj : j ∈ vs) : L2.wipe (σ.set j y) vs = L2.wipe σ vs :=
  wipe_eq (by rw [List.length_set]) fun k hk => List.getElem?_set_ne fun z => hk (by subst z; exact hj)
theorem wipe_wipe {σ : L2.St} {vs : List Nat} : L2.wipe (L2.wipe σ vs) vs = L2.wipe σ vs := wipe_eq (L2.wipe_length _ _) fun k hk => by rw [wipe_get, if_neg hk]
theorem aw_name {vs : List Nat} {j : Nat} (hj : j ∈ vs) : AsgW K (gName j) d Γ vs ((wipeG Γ vs).set j (some d)) := fun σ H F C v s r Q q =>
  q _ (by rw [wipe_set hj, wipe_wipe]) ⟨s.le, (s.gam.wipe vs).set r, s.cel⟩
theorem aws_nil {vs : List Nat} : AsgsW K gNil [] Γ vs Γ := fun σ0 σ H F C us e s r Q q => ⟨reps_nil.1 r, q σ e s⟩
theorem aws_cons {vs : List Nat} {gs : TGs} {j : Nat} {Γ2 : Gam} (hj : j ∈ vs) (h : AsgsW K gs ds (Γ.set j (some d)) vs Γ2) : AsgsW K (gCons (gName j) gs) (d :: ds) Γ vs Γ2 := fun σ0 σ H F C us e s r Q q => by
  obtain ⟨v, r', rfl, r1, r2⟩ := reps_cons.1 r
  exact ⟨v, r', rfl, h σ0 _ H F C r' ((wipe_set hj).trans e) ⟨s.le, s.gam.set r1, s.cel⟩ r2 Q q⟩
theorem aw_tup {vs : List Nat} {gs : TGs} {n : Nat} {Γ2 : Gam} (h : AsgsW K gs ds (wipeG Γ vs) vs Γ2) (hn : ds.length = n) : AsgW K (gTup K n gs) (.tup ds) Γ vs Γ2 := fun σ H F C v s r Q q => by
  obtain ⟨a, us, rfl, hl, hr⟩ := rep_tup.1 r
  exact ⟨a, us, rfl, SqT.of (s.le.tup hl), (reps_len hr).symm.trans hn, h σ _ H F C us wipe_wipe ⟨s.le, s.gam.wipe vs, s.cel⟩ hr Q q⟩

/-- [elt for target in wi if tt], any state: I i acc C' -/
theorem en_lcG {vs : List Nat} {res : List Dat} (h : EvI K wi Γ C ds C1) (hl : ds.length ≤ 100000) (I : Nat → List Dat → Cells → Prop) (h0 : I 0 [] C1)
    (hs : ∀ (i : Nat) (d : Dat) acc C', ds[i]? = some d → I i acc C' → ∃ Γ2 b C3, AsgW K g d Γ vs Γ2 ∧ EvT K tt Γ2 C' b C3 ∧ (b = false → I (i + 1) acc C3) ∧ (b = true → ∃ e C4, Ev K te Γ2 C3 e C4 ∧ I (i + 1) (acc ++ [e]) C4))
    (hd : ∀ acc C', I ds.length acc C' → acc = res ∧ C' = C2) : EvN K (tLc wi g tt te vs) Γ C (.lst res) C2 := fun σ H F s Q q => h σ H F s _ fun J G H1 F1 p1 s1 it g1 D hD => by
  obtain ⟨pD, lD, cD⟩ := post_new (c := .lst []) (o := .lst []) s1.le s1.cel hD ⟨[], rfl, reps_nil.2 rfl⟩
  have gD : G (upd H1 D (.lst [])) := it.keep F1 H1 C1 F1 _ _ (Kx.refl F1) s1.cel pD g1
  refine ⟨fun i m H' => m = ds.length - i ∧ i ≤ ds.length ∧ ∃ acc C' F', acc.length ≤ i ∧ I i acc C' ∧ Post ((D, .lst []) :: C1) F1 (upd H1 D (.lst [])) ((D, .lst acc) :: C') F' H' ∧ Sat K Γ ((D, .lst acc) :: C') σ H' F', ⟨ds.length, by simp, Nat.zero_le _, [], C1, F1, Nat.le_refl _, h0, Post.refl, lD, s1.gam, cD⟩, ?_⟩
  rintro i m H' ⟨rfl, hi, acc, C', F', hacc, hI, po, sa⟩
  have gH : G H' := it.keep F1 _ _ F' H' _ (Kx.refl F1) cD po gD
  by_cases hlt : i < ds.length
  · refine .inr ⟨it.go F' H' po.kx sa.le gH i hlt, fun H2 => i + 1 ≤ ds.length ∧ ∃ acc C' F', acc.length ≤ i + 1 ∧ I (i + 1) acc C' ∧ Post ((D, .lst []) :: C1) F1 (upd H1 D (.lst [])) ((D, .lst acc) :: C') F' H2 ∧ Sat K Γ ((D, .lst acc) :: C') σ H2 F', fun H2 ⟨h1, h2⟩ => ⟨ds.length - (i + 1), by omega, rfl, h1, h2⟩, fun x H2 hy => ?_⟩
    obtain ⟨d, F2, hd1, p2, l2, c2, r2⟩ := it.yld F' H' _ po.kx sa.le sa.cel i x H2 hlt hy
    obtain ⟨Γ2, b, C3, ha, hT, hF, hE⟩ := hs i d acc C' hd1 hI
    have drop : ∀ {C : Cells} {x : Addr × Cell}, C.Sublist (x :: C) := List.sublist_cons_self _ _
    have s2 : Sat K Γ C' σ H2 F2 := ⟨l2, sa.gam.kx p2.kx, c2.sub drop⟩
    refine ha σ H2 F2 C' x s2 r2 _ fun σ2 hw s3 => ⟨hw, ?_⟩
    refine hT σ2 H2 F2 s3 _ fun H3 F3 p3 s4 => ?_
    have hnD : D ∉ dom C' := (List.nodup_cons.1 c2.nd).1
    have D2 := c2.at_ D _ List.mem_cons_self
    have keepD : ∀ {C3 : Cells} {F3 H3 : Hp}, Post C' F2 H2 C3 F3 H3 → Le F3 H3 → CSat K C3 H3 F3 → Post ((D, .lst acc) :: C') F2 H2 ((D, .lst acc) :: C3) F3 H3 ∧ CSat K ((D, .lst acc) :: C3) H3 F3 := fun p l c => by
      have hp : ((D, Cell.lst acc) :: C').Perm (C' ++ [(D, Cell.lst acc)]) := (List.perm_append_comm (l₁ := [(D, Cell.lst acc)]) (l₂ := C'))
      obtain ⟨q1, q2⟩ := frame hp c2 p l c
      have hp3 : ∀ C3 : Cells, (C3 ++ [(D, Cell.lst acc)]).Perm ((D, Cell.lst acc) :: C3) := fun C3 => (List.perm_append_comm (l₁ := C3) (l₂ := [(D, Cell.lst acc)]))
      exact ⟨q1.perm (hp3 _), q2.perm (hp3 _)⟩
    cases b with
    | false =>
      obtain ⟨q1, q2⟩ := keepD p3 s4.le s4.cel
      exact ⟨hlt, acc, C3, F3, by omega, hF rfl, (po.trans p2).trans q1, s4.le, (sa.gam.kx p2.kx).kx p3.kx, q2⟩
    | true =>
      obtain ⟨e, C4, hEv, hI2⟩ := hE rfl
      refine hEv σ2 H3 F3 s4 _ fun y H4 F4 p4 s5 r5 => ?_
      obtain ⟨q1, q2⟩ := keepD (p3.trans p4) s5.le s5.cel
      obtain ⟨n1, o, n2, vs', rfl, n4⟩ := q2.at_ D _ List.mem_cons_self
      have hv := reps_len n4
      refine ⟨vs', n2, by rw [← hv, sizeLine_eq]; omega, hlt, acc ++ [e], C4, F4, by simp; omega, hI2, ?_, ?_⟩
      · refine ((po.trans p2).trans q1).trans ⟨Kx.refl _, fun a o h1 h2 => .inl ?_, fun _ _ _ h => h, fun a m => .inl m, fun a h => ?_⟩
        · rw [upd_ne (fun z => h1 (by subst z; exact List.mem_cons_self))]
          exact h2
        · by_cases z : a = D
          · subst z; rw [upd_same] at h; cases h
          · rwa [upd_ne z] at h
      · refine ⟨fun a o h => ?_, ((sa.gam.kx p2.kx).kx p3.kx).kx p4.kx, q2.nd, fun a c m => ?_⟩
        · rw [upd_ne (fun z => by subst z; rw [n1] at h; cases h), ]
          exact s5.le a o h
        · rcases List.mem_cons.1 m with z | z
          · cases z
            refine ⟨n1, _, upd_same, vs' ++ [y], rfl, ?_⟩
            have app : ∀ {ds : List Dat} {us : List V}, Reps K F4 ds us → Reps K F4 (ds ++ [e]) (us ++ [y]) := by
              intro ds
              induction ds with
              | nil => intro us h; rw [reps_nil.1 h]; exact reps_cons.2 ⟨y, [], rfl, r5, reps_nil.2 rfl⟩
              | cons d ds ih => intro us h; obtain ⟨w, r, rfl, h1, h2⟩ := reps_cons.1 h; exact reps_cons.2 ⟨w, _, rfl, h1, ih h2⟩
            exact app n4
          · obtain ⟨m1, o', m2, m3⟩ := q2.at_ a c (List.mem_cons_of_mem _ z)
            exact ⟨m1, o', by rw [upd_ne (fun y => (List.nodup_cons.1 q2.nd).1 (by subst y; exact mem_dom z))]; exact m2, m3⟩
  · have e0 : i = ds.length := by omega
    subst e0
    obtain ⟨rfl, rfl⟩ := hd acc C' hI
    refine .inl ⟨it.stop F' H' po.kx sa.le gH, q D H' F' ((p1.trans pD).trans po) sa (p1.st _ hD)⟩
end
end Dm
end

section
set_option maxRecDepth 100000
set_option maxHeartbeats 4000000
/-! DmM: texts in order, sorted lists of texts. -/
namespace Dm
open PySem L2

theorem Str.ext' {a b : Str} (h : a.cps.toList = b.cps.toList) : a = b := by
  cases a; cases b
  simp only [Str.mk.injEq]
  exact Array.toList_inj.1 h
/-- a ≤ b -/
def sle (a b : Str) : Bool := !decide (b.cps.toList < a.cps.toList)
theorem sle_iff {a b : Str} : sle a b = true ↔ ¬ b.cps.toList < a.cps.toList := by simp [sle]
theorem sle_refl (a : Str) : sle a a = true := sle_iff.2 (List.lt_irrefl _)
theorem sle_trans {a b c : Str} (h1 : sle a b = true) (h2 : sle b c = true) : sle a c = true := by
  rw [sle_iff] at *
  exact List.le_trans (α := Nat) (l₁ := a.cps.toList) (l₂ := b.cps.toList) (l₃ := c.cps.toList) h1 h2
theorem sle_total (a b : Str) : (sle a b || sle b a) = true := by
  rw [Bool.or_eq_true, sle_iff, sle_iff]
  exact List.le_total (α := Nat) a.cps.toList b.cps.toList
theorem sle_antisymm {a b : Str} (h1 : sle a b = true) (h2 : sle b a = true) : a = b := by
  rw [sle_iff] at *
  exact Str.ext' (List.le_antisymm (α := Nat) h1 h2)
/-- sorted -/
def srt (xs : List Str) : List Str := xs.mergeSort sle
theorem srt_perm (xs : List Str) : (srt xs).Perm xs := List.mergeSort_perm _ _
theorem srt_pw (xs : List Str) : (srt xs).Pairwise (fun a b => sle a b = true) := List.pairwise_mergeSort (le := sle) (fun a b c h1 h2 => sle_trans h1 h2) sle_total xs
theorem perm_pw_eq {xs ys : List Str} (h : xs.Perm ys) (h1 : xs.Pairwise (fun a b => sle a b = true)) (h2 : ys.Pairwise (fun a b => sle a b = true)) : xs = ys :=
  List.Perm.eq_of_pairwise (fun a b _ _ q1 q2 => sle_antisymm q1 q2) h1 h2 h
theorem risingS_pw : ∀ {p : Str} {xs : List Str}, PyProof.Rows.risingS p xs = true → (p :: xs).Pairwise (fun a b => sle a b = true)
  | p, [], _ => List.pairwise_singleton _ _
  | p, x :: xs, h => by
    have h' : sle p x = true ∧ PyProof.Rows.risingS x xs = true := by
      rw [show PyProof.Rows.risingS p (x :: xs) = (!Spec.ltCps x.cps.toList p.cps.toList && PyProof.Rows.risingS x xs) from rfl, PyProof.Rows.ltCps_eq, Bool.and_eq_true] at h
      exact h
    have ih := risingS_pw h'.2
    rw [List.pairwise_cons]
    refine ⟨fun y hy => ?_, ih⟩
    rcases List.mem_cons.1 hy with rfl | hy
    · exact h'.1
    · exact sle_trans h'.1 ((List.pairwise_cons.1 ih).1 y hy)
theorem sortedS_pw {xs : List Str} (h : PyProof.Rows.sortedS xs = true) : xs.Pairwise (fun a b => sle a b = true) := by
  cases xs with
  | nil => exact List.Pairwise.nil
  | cons x xs => exact risingS_pw h
theorem sortedS_srt {xs ys : List Str} (h : ys.Perm xs) (h1 : PyProof.Rows.sortedS ys = true) : ys = srt xs := perm_pw_eq (h.trans (srt_perm xs).symm) (sortedS_pw h1) (srt_pw xs)
theorem srt_of_pw {xs : List Str} (h : xs.Pairwise (fun a b => sle a b = true)) : srt xs = xs := perm_pw_eq (srt_perm xs) (srt_pw xs) h
theorem srt_len (xs : List Str) : (srt xs).length = xs.length := (srt_perm xs).length_eq
theorem srt_mem {xs : List Str} {x : Str} : x ∈ srt xs ↔ x ∈ xs := (srt_perm xs).mem_iff
theorem srt_congr {xs ys : List Str} (h : xs.Perm ys) : srt xs = srt ys := perm_pw_eq ((srt_perm xs).trans (h.trans (srt_perm ys).symm)) (srt_pw xs) (srt_pw ys)
/-- each once, the first place kept -/
def dedup : List Str → List Str
  | [] => []
  | x :: xs => x :: (dedup xs).filter fun y => decide (y ≠ x)
end Dm
end

section
set_option maxRecDepth 100000
set_option maxHeartbeats 4000000
/-! Dn1: shapes of data; a cell that is written; == of plain data; dicts as lists of pairs. -/
namespace Dm
open PySem L2 PySem.Spec PyProof.Rows
section
variable {K : PySem.W.Frag} {Γ Γ' : Gam} {C C1 C2 C3 R : Cells} {te ta tb tc tl : TE} {tt tu : TT} {d d1 d2 d3 : Dat} {c : Cell} {W : WX} {e : Ent} {B : Bd} {t u : TS} {i j : Int} {b b1 b2 : Bool} {g : TG} {ds es : List Dat} {F H : Hp} {x y : V}

/-! ### shapes of values -/
theorem reps1 {vs : List V} (h : Reps K F [d] vs) : ∃ v, vs = [v] ∧ Rep K F d v := by
  obtain ⟨v, r, rfl, h1, h2⟩ := reps_cons.1 h
  obtain rfl := reps_nil.1 h2
  exact ⟨v, rfl, h1⟩
theorem reps2 {vs : List V} (h : Reps K F [d1, d2] vs) : ∃ v w, vs = [v, w] ∧ Rep K F d1 v ∧ Rep K F d2 w := by
  obtain ⟨v, r, rfl, h1, h2⟩ := reps_cons.1 h
  obtain ⟨w, rfl, h3⟩ := reps1 h2
  exact ⟨v, w, rfl, h1, h3⟩
theorem reps_v {F : Hp} : ∀ {xs : List V} {vs : List V}, Reps K F (xs.map Dat.v) vs → vs = xs
  | [], vs, h => reps_nil.1 h
  | x :: xs, vs, h => by
    obtain ⟨v, r, rfl, h1, h2⟩ := reps_cons.1 h
    rw [rep_v.1 h1, reps_v h2]
theorem reps_of {F : Hp} : ∀ xs : List V, Reps K F (xs.map Dat.v) xs
  | [] => reps_nil.2 rfl
  | x :: xs => reps_cons.2 ⟨x, xs, rfl, rep_v.2 rfl, reps_of xs⟩
theorem dLs_map (ms : List Str) : ms.map dS = (ms.map V.str).map Dat.v := by rw [List.map_map] <;> rfl
theorem reps_strs {ms : List Str} {vs : List V} (h : Reps K F (ms.map dS) vs) : vs = ms.map V.str := by
  rw [dLs_map] at h
  exact reps_v h
theorem reps_mkS (ms : List Str) : Reps K F (ms.map dS) (ms.map V.str) := by
  rw [dLs_map]
  exact reps_of _
theorem reps_bls {bs : List Bool} {vs : List V} (h : Reps K F (bs.map dB) vs) : vs = bs.map V.bl := by
  rw [show bs.map dB = (bs.map V.bl).map Dat.v from by rw [List.map_map] <;> rfl] at h
  exact reps_v h
theorem reps_app {F : Hp} : ∀ {ds es : List Dat} {us ws : List V}, Reps K F ds us → Reps K F es ws → Reps K F (ds ++ es) (us ++ ws)
  | [], es, us, ws, h1, h2 => by rw [reps_nil.1 h1]; exact h2
  | d :: ds, es, us, ws, h1, h2 => by
    obtain ⟨v, r, rfl, q1, q2⟩ := reps_cons.1 h1
    exact reps_cons.2 ⟨v, _, rfl, q1, reps_app q2 h2⟩

/-- as putF, by data -/
def putD (f : Str) (v : Dat) : List (Str × Dat) → List (Str × Dat)
  | [] => [(f, v)]
  | (g, x) :: r => if g = f then (g, v) :: r else (g, x) :: putD f v r
theorem putD_rep {f : Str} {v : V} (hd : Rep K F d v) : ∀ {fs : List (Str × Dat)} {vs : List (Str × V)}, RepF K F fs vs → RepF K F (putD f d fs) (putF f v vs)
  | [], vs, h => by
    rw [repF_nil.1 h]
    exact repF_cons.2 ⟨v, [], rfl, hd, repF_nil.2 rfl⟩
  | (k, d') :: fs, vs, h => by
    obtain ⟨w, r, rfl, h1, h2⟩ := repF_cons.1 h
    unfold putD putF
    by_cases q : k = f
    · rw [if_pos q, if_pos q]
      exact repF_cons.2 ⟨v, r, rfl, hd, h2⟩
    · rw [if_neg q, if_neg q]
      exact repF_cons.2 ⟨w, _, rfl, h1, putD_rep hd h2⟩
theorem repF_len {F : Hp} : ∀ {fs : List (Str × Dat)} {vs : List (Str × V)}, RepF K F fs vs → fs.length = vs.length
  | [], vs, h => by rw [repF_nil.1 h] <;> rfl
  | (k, d) :: ds, vs, h => by
    obtain ⟨v, r, rfl, _, h2⟩ := repF_cons.1 h
    rw [List.length_cons, List.length_cons, repF_len h2]
/-- a cell is written -/
theorem post_write {a : Addr} {c c' : Cell} {o : HO} {C R : Cells} {F H : Hp} (hp : Pick (a, c) C R) (l : Le F H) (s : CSat K C H F) (h : CRep K F c' o) : Post C F H ((a, c') :: R) F (upd H a o) ∧ Le F (upd H a o) ∧ CSat K ((a, c') :: R) (upd H a o) F := by
  have sp := s.perm hp.perm
  have h1 := (sp.at_ a c List.mem_cons_self).1
  obtain ⟨u, h2, _⟩ := (sp.at_ a c List.mem_cons_self).2
  have ne : ∀ b, b ∈ dom R → b ≠ a := fun b m z => by
    subst z
    exact (List.nodup_cons.1 sp.nd).1 m
  refine ⟨⟨Kx.refl F, fun b u m e => .inl ?_, fun _ _ _ h => h, fun b m => ?_, fun b e => ?_⟩, fun b u e => ?_, (List.nodup_cons.2 ⟨(List.nodup_cons.1 sp.nd).1, (List.nodup_cons.1 sp.nd).2⟩), fun b k m => ?_⟩
  · rw [upd_ne (fun z => m (by subst z; exact mem_dom hp.mem))]
    exact e
  · refine .inl ?_
    have : b ∈ dom ((a, c) :: R) := m
    unfold dom at this ⊢
    exact (hp.perm.map (·.1)).symm.subset this
  · by_cases z : b = a
    · subst z; rw [upd_same] at e; cases e
    · rwa [upd_ne z] at e
  · rw [upd_ne (fun z => by subst z; rw [h1] at e; cases e)]
    exact l b u e
  · rcases List.mem_cons.1 m with z | z
    · cases z
      exact ⟨h1, o, upd_same, h⟩
    · obtain ⟨g1, u, g2, g3⟩ := sp.at_ b k (List.mem_cons_of_mem _ z)
      exact ⟨g1, u, by rw [upd_ne (ne b (mem_dom z))]; exact g2, g3⟩
end
/-! ### == of plain data -/
mutual
def deq : Dat → Dat → Bool
  | .v x, e => match e with | .v y => eqV x y | _ => false
  | .lst xs, e => match e with | .lst ys => deqs xs ys | _ => false
  | .tup xs, e => match e with | .tup ys => deqs xs ys | _ => false
  | .dK _, _ => false
  | .ins _ _, _ => false
  | .scr _, _ => false
  | .xd _, _ => false
  | .glb _, _ => false
def deqs : List Dat → List Dat → Bool
  | [], ys => ys.isEmpty
  | x :: xs, ys => match ys with | [] => false | y :: ys => deq x y && deqs xs ys
end
def okV : V → Bool
  | .non => true
  | .bl _ => true
  | .int _ => true
  | .str z => PyData.strOk z
  | _ => false
mutual
def okD : Dat → Bool
  | .v x => okV x
  | .lst xs => okDs xs
  | .tup xs => okDs xs
  | .dK _ => false
  | .ins _ _ => false
  | .scr _ => false
  | .xd _ => false
  | .glb _ => false
def okDs : List Dat → Bool
  | [] => true
  | x :: xs => okD x && okDs xs
end
mutual
def dpD : Dat → Nat
  | .v _ => 0
  | .lst xs => dpDs xs + 1
  | .tup xs => dpDs xs + 1
  | .dK _ => 0
  | .ins _ _ => 0
  | .scr _ => 0
  | .xd _ => 0
  | .glb _ => 0
def dpDs : List Dat → Nat
  | [] => 0
  | x :: xs => max (dpD x) (dpDs xs)
end
def pyV : V → PyData
  | .non => .none
  | .bl b => .bool b
  | .int i => .int i
  | .str z => .str z
  | _ => .none
mutual
def pyD : Dat → PyData
  | .v x => pyV x
  | .lst xs => .list (pyDs xs)
  | .tup xs => .tuple (pyDs xs)
  | .dK _ => .none
  | .ins _ _ => .none
  | .scr _ => .none
  | .xd _ => .none
  | .glb _ => .none
def pyDs : List Dat → List PyData
  | [] => []
  | x :: xs => pyD x :: pyDs xs
end
mutual
theorem can_pyD : ∀ {d : Dat}, okD d = true → (pyD d).canLay0 = true
  | .v x, h => by
    cases x <;> simp_all [okD, okV, pyD, pyV, PyData.canLay0]
  | .lst xs, h => by
    simp only [okD] at h
    simp only [pyD, PyData.canLay0]
    exact can_pyDs h
  | .tup xs, h => by
    simp only [okD] at h
    simp only [pyD, PyData.canLay0]
    exact can_pyDs h
  | .dK _, h => by simp [okD] at h
  | .ins _ _, h => by simp [okD] at h
  | .scr _, h => by simp [okD] at h
  | .xd _, h => by simp [okD] at h
  | .glb _, h => by simp [okD] at h
theorem can_pyDs : ∀ {ds : List Dat}, okDs ds = true → PyData.canLayAll0 (pyDs ds) = true
  | [], _ => rfl
  | d :: ds, h => by
    simp only [okDs, Bool.and_eq_true] at h
    simp only [pyDs, PyData.canLayAll0, Bool.and_eq_true]
    exact ⟨can_pyD h.1, can_pyDs h.2⟩
end
mutual
theorem dp_pyD : ∀ {d : Dat}, okD d = true → (pyD d).depth = dpD d
  | .v x, h => by cases x <;> simp_all [okD, okV, pyD, pyV, PyData.depth, dpD]
  | .lst xs, h => by
    simp only [okD] at h
    simp only [pyD, PyData.depth, dpD]
    rw [dp_pyDs h]
  | .tup xs, h => by
    simp only [okD] at h
    simp only [pyD, PyData.depth, dpD]
    rw [dp_pyDs h]
  | .dK _, h => by simp [okD] at h
  | .ins _ _, h => by simp [okD] at h
  | .scr _, h => by simp [okD] at h
  | .xd _, h => by simp [okD] at h
  | .glb _, h => by simp [okD] at h
theorem dp_pyDs : ∀ {ds : List Dat}, okDs ds = true → PyData.depthAll (pyDs ds) = dpDs ds
  | [], _ => rfl
  | d :: ds, h => by
    simp only [okDs, Bool.and_eq_true] at h
    simp only [pyDs, PyData.depthAll, dpDs]
    rw [dp_pyD h.1, dp_pyDs h.2]
end
theorem shaped_pyD {d : Dat} (h : okD d = true) (hd : dpD d ≤ 64) : SeqAt.shaped (pyD d) = true := by
  unfold SeqAt.shaped
  rw [Bool.and_eq_true]
  exact ⟨can_pyD h, decide_eq_true (by rw [dp_pyD h]; exact hd)⟩
mutual
theorem eqv_pyD : ∀ {d e : Dat}, okD d = true → okD e = true → PyData.eqv (pyD d) (pyD e) = deq d e
  | .v x, e, h, h' => by
    cases e with
    | v y => cases x <;> cases y <;> simp_all [okD, okV, pyD, pyV, PyData.eqv, deq, eqV]
    | lst ys => cases x <;> simp_all [okD, okV, pyD, pyV, PyData.eqv, deq]
    | tup ys => cases x <;> simp_all [okD, okV, pyD, pyV, PyData.eqv, deq]
    | dK _ => simp [okD] at h'
    | ins _ _ => simp [okD] at h'
    | scr _ => simp [okD] at h'
    | xd _ => simp [okD] at h'
    | glb _ => simp [okD] at h'
  | .lst xs, e, h, h' => by
    simp only [okD] at h
    cases e with
    | v y => cases y <;> simp_all [okD, okV, pyD, pyV, PyData.eqv, deq]
    | lst ys =>
      simp only [okD] at h'
      simp only [pyD, PyData.eqv, deq]
      exact eqv_pyDs h h'
    | tup ys => simp only [pyD, PyData.eqv, deq]
    | dK _ => simp [okD] at h'
    | ins _ _ => simp [okD] at h'
    | scr _ => simp [okD] at h'
    | xd _ => simp [okD] at h'
    | glb _ => simp [okD] at h'
  | .tup xs, e, h, h' => by
    simp only [okD] at h
    cases e with
    | v y => cases y <;> simp_all [okD, okV, pyD, pyV, PyData.eqv, deq]
    | lst ys => simp only [pyD, PyData.eqv, deq]
    | tup ys =>
      simp only [okD] at h'
      simp only [pyD, PyData.eqv, deq]
      exact eqv_pyDs h h'
    | dK _ => simp [okD] at h'
    | ins _ _ => simp [okD] at h'
    | scr _ => simp [okD] at h'
    | xd _ => simp [okD] at h'
    | glb _ => simp [okD] at h'
  | .dK _, _, h, _ => by simp [okD] at h
  | .ins _ _, _, h, _ => by simp [okD] at h
  | .scr _, _, h, _ => by simp [okD] at h
  | .xd _, _, h, _ => by simp [okD] at h
  | .glb _, _, h, _ => by simp [okD] at h
theorem eqv_pyDs : ∀ {ds es : List Dat}, okDs ds = true → okDs es = true → PyData.eqvAll (pyDs ds) (pyDs es) = deqs ds es
  | [], es, _, _ => by cases es <;> simp [pyDs, PyData.eqvAll, deqs]
  | d :: ds, es, h, h' => by
    simp only [okDs, Bool.and_eq_true] at h
    cases es with
    | nil => simp [pyDs, PyData.eqvAll, deqs]
    | cons e es =>
      simp only [okDs, Bool.and_eq_true] at h'
      simp only [pyDs, PyData.eqvAll, deqs]
      rw [eqv_pyD h.1 h'.1, eqv_pyDs h.2 h'.2]
end
section
variable {K : PySem.W.Frag} {C : Cells} {d d1 d2 : Dat} {F H : Hp}
mutual
theorem dp_rep {F H : Hp} (l : Le F H) : ∀ {d : Dat} {v : V}, okD d = true → Rep K F d v → Dp K H v (pyD d)
  | .v x, v, h, r => by
    rw [rep_v.1 r]
    cases x with
    | non => exact .non
    | bl b => exact .bl b
    | int i => exact .int i
    | str z => exact .str z
    | byt _ => simp [okD, okV] at h
    | flt _ => simp [okD, okV] at h
    | ref _ => simp [okD, okV] at h
    | ty _ => simp [okD, okV] at h
  | .lst xs, v, h, r => by
    obtain ⟨a, vs, rfl, h1, h2⟩ := rep_lst.1 r
    simp only [okD] at h
    simp only [pyD]
    exact .lst (SqL.of (l.lst h1)) (dp_reps l h h2)
  | .tup xs, v, h, r => by
    obtain ⟨a, vs, rfl, h1, h2⟩ := rep_tup.1 r
    simp only [okD] at h
    simp only [pyD]
    exact .tup (SqT.of (l.tup h1)) (dp_reps l h h2)
  | .dK _, _, h, _ => by simp [okD] at h
  | .ins _ _, _, h, _ => by simp [okD] at h
  | .scr _, _, h, _ => by simp [okD] at h
  | .xd _, _, h, _ => by simp [okD] at h
  | .glb _, _, h, _ => by simp [okD] at h
theorem dp_reps {F H : Hp} (l : Le F H) : ∀ {ds : List Dat} {vs : List V}, okDs ds = true → Reps K F ds vs → DpAll K H vs (pyDs ds)
  | [], vs, _, r => by rw [reps_nil.1 r]; exact .nil
  | d :: ds, vs, h, r => by
    obtain ⟨v, r', rfl, h1, h2⟩ := reps_cons.1 r
    simp only [okDs, Bool.and_eq_true] at h
    exact .cons (dp_rep l h.1 h1) (dp_reps l h.2 h2)
end
theorem okDs_iff : ∀ {ds : List Dat}, okDs ds = true ↔ ∀ d ∈ ds, okD d = true
  | [] => by simp [okDs]
  | d :: ds => by simp [okDs, okDs_iff (ds := ds)]
theorem okD_lst {ds : List Dat} : okD (.lst ds) = okDs ds := by simp only [okD]
theorem okD_tup {ds : List Dat} : okD (.tup ds) = okDs ds := by simp only [okD]
theorem okD_s {z : Str} : okD (dS z) = PyData.strOk z := by simp only [okD, okV]
theorem ok_strs {ms : List Str} (h : ∀ m ∈ ms, PyData.strOk m = true) : okD (dLs ms) = true := by
  rw [okD_lst, okDs_iff]
  intro d hd
  obtain ⟨m, hm, rfl⟩ := List.mem_map.1 hd
  rw [okD_s]
  exact h m hm
theorem dpDs_le {n : Nat} : ∀ {ds : List Dat}, (∀ d ∈ ds, dpD d ≤ n) → dpDs ds ≤ n
  | [], _ => Nat.zero_le _
  | d :: ds, h => by
    simp only [dpDs]
    have h1 := h d List.mem_cons_self
    have h2 := dpDs_le (ds := ds) fun e he => h e (List.mem_cons_of_mem _ he)
    omega
theorem dp_strs {ms : List Str} : dpD (dLs ms) ≤ 1 := by
  simp only [dpD]
  have := dpDs_le (n := 0) (ds := ms.map dS) fun d hd => by
    obtain ⟨m, hm, rfl⟩ := List.mem_map.1 hd
    simp [dpD]
  omega
theorem deq_s {x y : Str} : deq (dS x) (dS y) = decide (x = y) := by
  simp only [deq, eqV]
  rw [Bool.eq_iff_iff]; simp
theorem deqs_strs : ∀ {xs ys : List Str}, deqs (xs.map dS) (ys.map dS) = decide (xs = ys)
  | [], [] => by simp [deqs]
  | [], y :: ys => by simp [deqs]
  | x :: xs, [] => by simp [deqs]
  | x :: xs, y :: ys => by
    rw [List.map_cons, List.map_cons]
    simp only [deqs]
    rw [deq_s, deqs_strs, Bool.eq_iff_iff]
    simp
theorem deq_strs {xs ys : List Str} : deq (dLs xs) (dLs ys) = decide (xs = ys) := by
  simp only [deq]
  exact deqs_strs
theorem deq_i {i j : Int} : deq (dI i) (dI j) = decide (i = j) := by
  simp only [deq, eqV]
  rw [Bool.eq_iff_iff]; simp
theorem deq_b {x y : Bool} : deq (dB x) (dB y) = decide (x = y) := by
  cases x <;> cases y <;> rfl
end
section
variable {K : PySem.W.Frag} {Γ Γ' : Gam} {C C1 C2 C3 R : Cells} {te ta tb tc tl : TE} {tt tu : TT} {d d1 d2 d3 : Dat} {c : Cell} {W : WX} {e : Ent} {B : Bd} {t u : TS} {i j : Int} {b b1 b2 : Bool} {g : TG} {ds es : List Dat} {F H : Hp} {x y : V}

theorem reps_drop {F : Hp} : ∀ (n : Nat) {ds : List Dat} {vs : List V}, Reps K F ds vs → Reps K F (ds.drop n) (vs.drop n)
  | 0, _, _, h => h
  | n + 1, [], vs, h => by rw [reps_nil.1 h]; exact reps_nil.2 rfl
  | n + 1, d :: ds, vs, h => by
    obtain ⟨v, r, rfl, _, h2⟩ := reps_cons.1 h
    exact reps_drop n h2
theorem reps_take {F : Hp} : ∀ (n : Nat) {ds : List Dat} {vs : List V}, Reps K F ds vs → Reps K F (ds.take n) (vs.take n)
  | 0, _, _, _ => by rw [List.take_zero, List.take_zero]; exact reps_nil.2 rfl
  | n + 1, [], vs, h => by rw [reps_nil.1 h]; exact reps_nil.2 rfl
  | n + 1, d :: ds, vs, h => by
    obtain ⟨v, r, rfl, h1, h2⟩ := reps_cons.1 h
    exact reps_cons.2 ⟨v, _, rfl, h1, reps_take n h2⟩
theorem reps_rev {F : Hp} : ∀ {ds : List Dat} {vs : List V}, Reps K F ds vs → Reps K F ds.reverse vs.reverse
  | [], vs, h => by rw [reps_nil.1 h]; exact reps_nil.2 rfl
  | d :: ds, vs, h => by
    obtain ⟨v, r, rfl, h1, h2⟩ := reps_cons.1 h
    rw [List.reverse_cons, List.reverse_cons]
    exact reps_app (reps_rev h2) (reps_cons.2 ⟨v, [], rfl, h1, reps_nil.2 rfl⟩)
/-- xs[lo:hi] -/
def cutD {α : Type} (xs : List α) (lo hi : Option Int) : List α := (xs.drop (HT.sIx xs.length 0 lo)).take (HT.sIx xs.length xs.length hi - HT.sIx xs.length 0 lo)
/-! ### dicts -/
def putKD (kvs : List (Key × Dat)) (k : Key) (d : Dat) : List (Key × Dat) :=
  if (kvs.any fun kv => decide (kv.1 = k)) = true then kvs.map (fun kv => if kv.1 = k then (kv.1, d) else kv) else kvs ++ [(k, d)]
theorem repK_app {F : Hp} : ∀ {ds es : List (Key × Dat)} {us ws : List (Key × V)}, RepK K F ds us → RepK K F es ws → RepK K F (ds ++ es) (us ++ ws)
  | [], es, us, ws, h1, h2 => by rw [repK_nil.1 h1]; exact h2
  | (k, d) :: ds, es, us, ws, h1, h2 => by
    obtain ⟨v, r, rfl, q1, q2⟩ := repK_cons.1 h1
    exact repK_cons.2 ⟨v, _, rfl, q1, repK_app q2 h2⟩
theorem repK_any {F : Hp} {k : Key} : ∀ {ds : List (Key × Dat)} {us : List (Key × V)}, RepK K F ds us → (us.any fun kv => decide (kv.1 = k)) = ds.any fun kv => decide (kv.1 = k)
  | [], us, h => by rw [repK_nil.1 h] <;> rfl
  | (k', d) :: ds, us, h => by
    obtain ⟨v, r, rfl, _, h2⟩ := repK_cons.1 h
    rw [List.any_cons, List.any_cons, repK_any h2]
theorem repK_map {F : Hp} {k : Key} {v : V} (hd : Rep K F d v) : ∀ {ds : List (Key × Dat)} {us : List (Key × V)}, RepK K F ds us → RepK K F (ds.map fun kv => if kv.1 = k then (kv.1, d) else kv) (us.map fun kv => if kv.1 = k then (kv.1, v) else kv)
  | [], us, h => by rw [repK_nil.1 h]; exact repK_nil.2 rfl
  | (k', d') :: ds, us, h => by
    obtain ⟨w, r, rfl, h1, h2⟩ := repK_cons.1 h
    rw [List.map_cons, List.map_cons]
    dsimp only
    by_cases q : k' = k
    · rw [if_pos q, if_pos q]
      exact repK_cons.2 ⟨v, _, rfl, hd, repK_map hd h2⟩
    · rw [if_neg q, if_neg q]
      exact repK_cons.2 ⟨w, _, rfl, h1, repK_map hd h2⟩
theorem repK_put {F : Hp} {k : Key} {v : V} (hd : Rep K F d v) {ds : List (Key × Dat)} {us : List (Key × V)} (h : RepK K F ds us) : RepK K F (putKD ds k d) (putK us k v) := by
  unfold putKD putK
  rw [repK_any h]
  split
  · exact repK_map hd h
  · exact repK_app h (repK_cons.2 ⟨v, [], rfl, hd, repK_nil.2 rfl⟩)
theorem putKD_len (kvs : List (Key × Dat)) (k : Key) (d : Dat) : (putKD kvs k d).length ≤ kvs.length + 1 := by
  unfold putKD
  split <;> simp
theorem putKD_new {kvs : List (Key × Dat)} {k : Key} {d : Dat} (h : k ∉ kvs.map (·.1)) : putKD kvs k d = kvs ++ [(k, d)] := by
  unfold putKD
  rw [if_neg]
  intro q
  obtain ⟨p, hp, e⟩ := List.any_eq_true.1 q
  exact h (List.mem_map.2 ⟨p, hp, of_decide_eq_true e⟩)

/-- {k: v for target in wi if tt}, any state -/
theorem en_dcG {vs : List Nat} {res : List (Key × Dat)} (h : EvI K wi Γ C ds C1) (hl : ds.length ≤ 100000) (I : Nat → List (Key × Dat) → Cells → Prop) (h0 : I 0 [] C1)
    (hs : ∀ (i : Nat) (d : Dat) acc C', ds[i]? = some d → I i acc C' → ∃ Γ2 b C3, AsgW K g d Γ vs Γ2 ∧ EvT K tt Γ2 C' b C3 ∧ (b = false → I (i + 1) acc C3) ∧ (b = true → ∃ k e C4 C5, Ev K tk Γ2 C3 (kD k) C4 ∧ Ev K tv Γ2 C4 e C5 ∧ I (i + 1) (putKD acc k e) C5))
    (hd : ∀ acc C', I ds.length acc C' → acc = res ∧ C' = C2) : EvN K (tDc wi g tt tk tv vs) Γ C (.dK res) C2 := fun σ H F s Q q => h σ H F s _ fun J G H1 F1 p1 s1 it g1 D hD => by
  obtain ⟨pD, lD, cD⟩ := post_new (c := .dK []) (o := .dK []) s1.le s1.cel hD ⟨[], rfl, repK_nil.2 rfl⟩
  have gD : G (upd H1 D (.dK [])) := it.keep F1 H1 C1 F1 _ _ (Kx.refl F1) s1.cel pD g1
  refine ⟨fun i m H' => m = ds.length - i ∧ i ≤ ds.length ∧ ∃ acc C' F', acc.length ≤ i ∧ I i acc C' ∧ Post ((D, .dK []) :: C1) F1 (upd H1 D (.dK [])) ((D, .dK acc) :: C') F' H' ∧ Sat K Γ ((D, .dK acc) :: C') σ H' F', ⟨ds.length, by simp, Nat.zero_le _, [], C1, F1, Nat.le_refl _, h0, Post.refl, lD, s1.gam, cD⟩, ?_⟩
  rintro i m H' ⟨rfl, hi, acc, C', F', hacc, hI, po, sa⟩
  have gH : G H' := it.keep F1 _ _ F' H' _ (Kx.refl F1) cD po gD
  by_cases hlt : i < ds.length
  · refine .inr ⟨it.go F' H' po.kx sa.le gH i hlt, fun H2 => i + 1 ≤ ds.length ∧ ∃ acc C' F', acc.length ≤ i + 1 ∧ I (i + 1) acc C' ∧ Post ((D, .dK []) :: C1) F1 (upd H1 D (.dK [])) ((D, .dK acc) :: C') F' H2 ∧ Sat K Γ ((D, .dK acc) :: C') σ H2 F', fun H2 ⟨h1, h2⟩ => ⟨ds.length - (i + 1), by omega, rfl, h1, h2⟩, fun x H2 hy => ?_⟩
    obtain ⟨d, F2, hd1, p2, l2, c2, r2⟩ := it.yld F' H' _ po.kx sa.le sa.cel i x H2 hlt hy
    obtain ⟨Γ2, b, C3, ha, hT, hF, hE⟩ := hs i d acc C' hd1 hI
    have drop : ∀ {C : Cells} {x : Addr × Cell}, C.Sublist (x :: C) := List.sublist_cons_self _ _
    have s2 : Sat K Γ C' σ H2 F2 := ⟨l2, sa.gam.kx p2.kx, c2.sub drop⟩
    refine ha σ H2 F2 C' x s2 r2 _ fun σ2 hw s3 => ⟨hw, ?_⟩
    refine hT σ2 H2 F2 s3 _ fun H3 F3 p3 s4 => ?_
    have keepD : ∀ {C3 : Cells} {F3 H3 : Hp}, Post C' F2 H2 C3 F3 H3 → Le F3 H3 → CSat K C3 H3 F3 → Post ((D, .dK acc) :: C') F2 H2 ((D, .dK acc) :: C3) F3 H3 ∧ CSat K ((D, .dK acc) :: C3) H3 F3 := fun p l c => by
      have hp : ((D, Cell.dK acc) :: C').Perm (C' ++ [(D, Cell.dK acc)]) := (List.perm_append_comm (l₁ := [(D, Cell.dK acc)]) (l₂ := C'))
      obtain ⟨q1, q2⟩ := frame hp c2 p l c
      have hp3 : ∀ C3 : Cells, (C3 ++ [(D, Cell.dK acc)]).Perm ((D, Cell.dK acc) :: C3) := fun C3 => (List.perm_append_comm (l₁ := C3) (l₂ := [(D, Cell.dK acc)]))
      exact ⟨q1.perm (hp3 _), q2.perm (hp3 _)⟩
    cases b with
    | false =>
      obtain ⟨q1, q2⟩ := keepD p3 s4.le s4.cel
      exact ⟨hlt, acc, C3, F3, by omega, hF rfl, (po.trans p2).trans q1, s4.le, (sa.gam.kx p2.kx).kx p3.kx, q2⟩
    | true =>
      obtain ⟨k, e, C4, C5, hEk, hEv, hI2⟩ := hE rfl
      refine hEk σ2 H3 F3 s4 _ fun y H4 F4 p4 s5 r5 => hEv σ2 H4 F4 s5 _ fun z H5 F5 p5 s6 r6 => ?_
      obtain ⟨q1, q2⟩ := keepD ((p3.trans p4).trans p5) s6.le s6.cel
      obtain ⟨n1, o, n2, vs', rfl, n4⟩ := q2.at_ D _ List.mem_cons_self
      have hv := repK_len n4
      have hy : y = kV k := by
        cases k <;> exact rep_v.1 r5
      refine ⟨vs', k, hy, n2, by rw [← hv, sizeLine_eq]; omega, hlt, putKD acc k e, C5, F5, by have := putKD_len acc k e; omega, hI2, ?_, ?_⟩
      · refine ((po.trans p2).trans q1).trans ⟨Kx.refl _, fun a o h1 h2 => .inl ?_, fun _ _ _ h => h, fun a m => .inl m, fun a h => ?_⟩
        · rw [upd_ne (fun z => h1 (by subst z; exact List.mem_cons_self))]
          exact h2
        · by_cases z : a = D
          · subst z; rw [upd_same] at h; cases h
          · rwa [upd_ne z] at h
      · refine ⟨fun a o h => ?_, (((sa.gam.kx p2.kx).kx p3.kx).kx p4.kx).kx p5.kx, q2.nd, fun a c m => ?_⟩
        · rw [upd_ne (fun z => by subst z; rw [n1] at h; cases h)]
          exact s6.le a o h
        · rcases List.mem_cons.1 m with z | z
          · cases z
            exact ⟨n1, _, upd_same, _, rfl, repK_put r6 n4⟩
          · obtain ⟨m1, o', m2, m3⟩ := q2.at_ a c (List.mem_cons_of_mem _ z)
            exact ⟨m1, o', by rw [upd_ne (fun y => (List.nodup_cons.1 q2.nd).1 (by subst y; exact mem_dom z))]; exact m2, m3⟩
  · have e0 : i = ds.length := by omega
    subst e0
    obtain ⟨rfl, rfl⟩ := hd acc C' hI
    exact .inl ⟨it.stop F' H' po.kx sa.le gH, q D H' F' ((p1.trans pD).trans po) sa (p1.st _ hD)⟩
/-- the dict of pairs, the later ones over the earlier -/
def mkD (ps : List (Key × Dat)) : List (Key × Dat) := ps.foldl (fun acc p => putKD acc p.1 p.2) []
theorem mkD_nodup : ∀ {ps : List (Key × Dat)}, (ps.map (·.1)).Nodup → mkD ps = ps := by
  have h : ∀ (ps acc : List (Key × Dat)), ((acc ++ ps).map (·.1)).Nodup → ps.foldl (fun acc p => putKD acc p.1 p.2) acc = acc ++ ps := by
    intro ps
    induction ps with
    | nil => intro acc _; simp
    | cons p ps ih =>
      intro acc hn
      have e : putKD acc p.1 p.2 = acc ++ [p] := putKD_new (fun m => by
        rw [List.map_append, List.map_cons] at hn
        exact (List.nodup_append.1 hn).2.2 p.1 m p.1 List.mem_cons_self rfl)
      rw [List.foldl_cons, e, ih (acc ++ [p]) (by rw [List.append_assoc]; exact hn), List.append_assoc] <;> rfl
  intro ps hn
  have := h ps [] (by simpa using hn)
  simpa [mkD] using this
/-- the different ones, each at its first place -/
def dd (xs : List Str) : List Str := xs.foldl (fun acc x => if x ∈ acc then acc else acc ++ [x]) []
theorem putKD_any {kvs : List (Key × Dat)} {k : Key} : (kvs.any fun kv => decide (kv.1 = k)) = true ↔ k ∈ kvs.map (·.1) := by
  rw [List.any_eq_true, List.mem_map]
  exact ⟨fun ⟨p, h1, h2⟩ => ⟨p, h1, of_decide_eq_true h2⟩, fun ⟨p, h1, h2⟩ => ⟨p, h1, decide_eq_true h2⟩⟩
theorem putKD_old {kvs : List (Key × Dat)} {k : Key} {d : Dat} (h : k ∈ kvs.map (·.1)) : (putKD kvs k d).map (·.1) = kvs.map (·.1) := by
  unfold putKD
  rw [if_pos (putKD_any.2 h), List.map_map]
  apply List.map_congr_left
  intro p _
  show (if p.1 = k then (p.1, d) else p).1 = p.1
  split <;> rfl
theorem putKD_nw {kvs : List (Key × Dat)} {k : Key} {d : Dat} (h : k ∉ kvs.map (·.1)) : (putKD kvs k d).map (·.1) = kvs.map (·.1) ++ [k] := by
  rw [putKD_new h, List.map_append] <;> rfl
theorem mkD_strs {f : Str → Dat} (xs : List Str) : (mkD (xs.map fun x => (Sum.inr x, f x))).map (·.1) = (dd xs).map Sum.inr := by
  have h : ∀ (xs : List Str) (acc : List (Key × Dat)) (ks : List Str), acc.map (·.1) = ks.map Sum.inr →
      (((xs.map fun x => ((Sum.inr x : Key), f x)).foldl (fun acc p => putKD acc p.1 p.2) acc)).map (·.1) = (xs.foldl (fun acc x => if x ∈ acc then acc else acc ++ [x]) ks).map Sum.inr := by
    intro xs
    induction xs with
    | nil => intro acc ks h; exact h
    | cons x xs ih =>
      intro acc ks h
      rw [List.map_cons, List.foldl_cons, List.foldl_cons]
      refine ih _ _ ?_
      have e : (Sum.inr x : Key) ∈ ks.map Sum.inr ↔ x ∈ ks := by
        rw [List.mem_map]
        exact ⟨fun ⟨y, h1, h2⟩ => by cases h2; exact h1, fun h => ⟨x, h, rfl⟩⟩
      by_cases hx : x ∈ ks
      · rw [putKD_old (by rw [h]; exact e.2 hx), if_pos hx]
        exact h
      · rw [putKD_nw (by rw [h]; exact fun q => hx (e.1 q)), if_neg hx, List.map_append, h] <;> rfl
  exact h xs [] [] rfl
theorem dd_spec (xs : List Str) : (dd xs).Nodup ∧ ∀ x, x ∈ dd xs ↔ x ∈ xs := by
  have h : ∀ (xs acc : List Str), acc.Nodup → (xs.foldl (fun acc x => if x ∈ acc then acc else acc ++ [x]) acc).Nodup ∧ ∀ x, x ∈ xs.foldl (fun acc x => if x ∈ acc then acc else acc ++ [x]) acc ↔ x ∈ acc ∨ x ∈ xs := by
    intro xs
    induction xs with
    | nil => intro acc h; exact ⟨h, fun x => by simp⟩
    | cons y xs ih =>
      intro acc h
      rw [List.foldl_cons]
      by_cases hy : y ∈ acc
      · rw [if_pos hy]
        obtain ⟨a, b⟩ := ih acc h
        refine ⟨a, fun x => (b x).trans ⟨fun z => z.imp_right (List.mem_cons_of_mem _), fun z => ?_⟩⟩
        rcases z with z | z
        · exact .inl z
        · rcases List.mem_cons.1 z with rfl | z
          · exact .inl hy
          · exact .inr z
      · rw [if_neg hy]
        obtain ⟨a, b⟩ := ih (acc ++ [y]) (List.nodup_append.2 ⟨h, by simp, fun a ha c hc e => by
          rw [List.mem_singleton] at hc
          subst hc; subst e
          exact hy ha⟩)
        refine ⟨a, fun x => (b x).trans ?_⟩
        rw [List.mem_append, List.mem_singleton, List.mem_cons, or_assoc]
  obtain ⟨a, b⟩ := h xs [] List.nodup_nil
  exact ⟨a, fun x => (b x).trans (by simp)⟩
theorem dd_len (xs : List Str) : (dd xs).length ≤ xs.length := by
  have h : ∀ (xs acc : List Str), (xs.foldl (fun acc x => if x ∈ acc then acc else acc ++ [x]) acc).length ≤ acc.length + xs.length := by
    intro xs
    induction xs with
    | nil => intro acc; simp
    | cons y xs ih =>
      intro acc
      rw [List.foldl_cons, List.length_cons]
      split
      · have := ih acc; omega
      · have := ih (acc ++ [y]); rw [List.length_append, List.length_singleton] at this; omega
  have := h xs []
  simpa [dd] using this
end
end Dm
end

section
set_option maxRecDepth 100000
set_option maxHeartbeats 4000000
/-! Mr1: mirrors: what a text computes, as plain functions over data and a store of owned cells; how a mirror speaks of the layer's readings. -/
namespace Mr
open PySem L2 Dm

inductive Val where
  | p (d : Dat)
  | r (k : Nat)
inductive MCell where
  | lst (ds : List Dat)
  | dK (kvs : List (Key × Dat))
  | ins (c : Str) (fs : List (Str × Val))
  | xd (fs : List (Str × Dat))
  | gone
abbrev Store := List MCell
abbrev MEnv := List (Option Val)
/-- an expression's end: a value; a new object that nobody else has; an exception -/
inductive XR where
  | v (x : Val) (S : Store)
  | n (c : MCell) (S : Store)
  | ex (e : Exn) (S : Store)
  | bad
inductive TR where
  | ok (b : Bool) (S : Store)
  | ex (e : Exn) (S : Store)
  | bad
inductive AR where
  | a (xs : List Val) (S : Store)
  | ex (e : Exn) (S : Store)
  | bad
abbrev ME := MEnv → Store → XR
abbrev MT := MEnv → Store → TR

def pureFs : List (Str × Val) → Option (List (Str × Dat))
  | [] => some []
  | (f, .p d) :: r => match pureFs r with
    | some gs => some ((f, d) :: gs)
    | none => none
  | (_, .r _) :: _ => none
/-- an object that is no longer changed, as data -/
def frz : MCell → Option Dat
  | .lst ds => some (.lst ds)
  | .dK kvs => some (.dK kvs)
  | .ins c fs => match pureFs fs with
    | some gs => some (.ins c gs)
    | none => none
  | .xd fs => some (.xd fs)
  | .gone => none
def rdS (S : Store) : Val → Option Dat
  | .p d => some d
  | .r k => match S[k]? with
    | some m => frz m
    | none => none
def rdSs (S : Store) : List Val → Option (List Dat)
  | [] => some []
  | x :: xs => match rdS S x with
    | some d => match rdSs S xs with
      | some ds => some (d :: ds)
      | none => none
    | none => none
/-- the value; what is new is frozen -/
def XR.get (r : XR) (k : Val → Store → XR) : XR := match r with
  | .v x S => k x S
  | .n c S => match frz c with
    | some d => k (.p d) S
    | none => .bad
  | .ex e S => .ex e S
  | .bad => .bad
/-- the value as data that nobody changes from here on -/
def XR.pur (r : XR) (k : Dat → Store → XR) : XR := match r with
  | .v (.p d) S => k d S
  | .v (.r i) S => match S[i]? with
    | some m => match frz m with
      | some d => k d (S.set i .gone)
      | none => .bad
    | none => .bad
  | .n c S => match frz c with
    | some d => k d S
    | none => .bad
  | .ex e S => .ex e S
  | .bad => .bad

/-! ### relations -/
def VR (ρ : List Addr) : Val → Dat → Prop
  | .p d, d' => d' = d
  | .r k, d' => ∃ a, ρ[k]? = some a ∧ d' = dR a
inductive VRs (ρ : List Addr) : List Val → List Dat → Prop where
  | nil : VRs ρ [] []
  | cons {x : Val} {d : Dat} {xs : List Val} {ds : List Dat} (h : VR ρ x d) (t : VRs ρ xs ds) : VRs ρ (x :: xs) (d :: ds)
inductive FR (ρ : List Addr) : List (Str × Val) → List (Str × Dat) → Prop where
  | nil : FR ρ [] []
  | cons {f : Str} {x : Val} {d : Dat} {xs : List (Str × Val)} {ds : List (Str × Dat)} (h : VR ρ x d) (t : FR ρ xs ds) : FR ρ ((f, x) :: xs) ((f, d) :: ds)
def CR (ρ : List Addr) : MCell → Cell → Prop
  | .lst ds, c => c = .lst ds
  | .dK kvs, c => c = .dK kvs
  | .ins n fs, c => ∃ gs, c = .ins n gs ∧ FR ρ fs gs
  | .xd fs, c => c = .xd fs
  | .gone, _ => False
inductive SRL (ρ : List Addr) : List Addr → Store → Cells → Prop where
  | nil : SRL ρ [] [] []
  | cons {a : Addr} {m : MCell} {c : Cell} {as : List Addr} {S : Store} {L : Cells} (h : CR ρ m c) (t : SRL ρ as S L) : SRL ρ (a :: as) (m :: S) ((a, c) :: L)
  | gone {a : Addr} {as : List Addr} {S : Store} {L : Cells} (t : SRL ρ as S L) : SRL ρ (a :: as) (.gone :: S) L
def SR (ρ : List Addr) (S : Store) (C : Cells) : Prop := ∃ L, SRL ρ ρ S L ∧ C.Perm L
structure GR (P : List (Nat × Addr)) (ρ : List Addr) (Γ : MEnv) (G : Gam) : Prop where
  px : ∀ q ∈ P, ρ[q.1]? = some q.2
  len : Γ.length = G.length
  at_ : ∀ (i : Nat) (x : Val), Γ[i]? = some (some x) → ∃ d, G[i]? = some (some d) ∧ VR ρ x d

section
variable {P : List (Nat × Addr)} {ρ ρ' : List Addr} {x : Val} {d : Dat} {m m' : MCell} {c : Cell} {S : Store} {C R L : Cells} {as : List Addr} {k : Nat} {a : Addr} {Γ : MEnv} {G : Gam}
theorem pre_get (h : ρ <+: ρ') (e : ρ[k]? = some a) : ρ'[k]? = some a := by
  obtain ⟨t, rfl⟩ := h
  rw [List.getElem?_append_left (List.getElem?_eq_some_iff.1 e).1]
  exact e
theorem VR.mono (h : ρ <+: ρ') : VR ρ x d → VR ρ' x d := by
  cases x with
  | p e => exact id
  | r k => exact fun ⟨a, h1, h2⟩ => ⟨a, pre_get h h1, h2⟩
theorem VRs.mono (h : ρ <+: ρ') {xs : List Val} {ds : List Dat} (r : VRs ρ xs ds) : VRs ρ' xs ds := by
  induction r with
  | nil => exact .nil
  | cons r t ih => exact .cons (r.mono h) ih
theorem FR.mono (h : ρ <+: ρ') {xs : List (Str × Val)} {ds : List (Str × Dat)} (r : FR ρ xs ds) : FR ρ' xs ds := by
  induction r with
  | nil => exact .nil
  | cons r t ih => exact .cons (r.mono h) ih
theorem CR.mono (h : ρ <+: ρ') : CR ρ m c → CR ρ' m c := by
  cases m with
  | lst ds => exact id
  | dK ds => exact id
  | ins n fs => exact fun ⟨gs, h1, h2⟩ => ⟨gs, h1, h2.mono h⟩
  | xd fs => exact id
  | gone => exact id
theorem SRL.mono (h : ρ <+: ρ') (r : SRL ρ as S L) : SRL ρ' as S L := by
  induction r with
  | nil => exact .nil
  | cons r t ih => exact .cons (r.mono h) ih
  | gone t ih => exact .gone ih
theorem GR.mono (h : ρ <+: ρ') (g : GR P ρ Γ G) : GR P ρ' Γ G := ⟨fun q m => pre_get h (g.px q m), g.len, fun i x e => let ⟨d, h1, h2⟩ := g.at_ i x e; ⟨d, h1, h2.mono h⟩⟩
theorem SRL.len (r : SRL ρ as S L) : as.length = S.length := by
  induction r with
  | nil => rfl
  | cons r t ih => simp [ih]
  | gone t ih => simp [ih]
theorem SR.len (r : SR ρ S C) : ρ.length = S.length := let ⟨_, h, _⟩ := r; h.len
theorem SR.perm {C' : Cells} (r : SR ρ S C) (h : C'.Perm C) : SR ρ S C' := let ⟨L, h1, h2⟩ := r; ⟨L, h1, h.trans h2⟩
theorem SRL.app {as' : List Addr} {S' : Store} {L' : Cells} (r : SRL ρ as S L) (r' : SRL ρ as' S' L') : SRL ρ (as ++ as') (S ++ S') (L ++ L') := by
  induction r with
  | nil => exact r'
  | cons r t ih => exact .cons r ih
  | gone t ih => exact .gone ih
theorem SR.alloc (r : SR ρ S C) (h : CR ρ m c) : SR (ρ ++ [a]) (S ++ [m]) ((a, c) :: C) := by
  obtain ⟨L, h1, h2⟩ := r
  have pre : ρ <+: ρ ++ [a] := List.prefix_append _ _
  exact ⟨L ++ [(a, c)], (h1.mono pre).app (.cons (h.mono pre) .nil), (List.Perm.cons _ h2).trans (List.perm_append_comm (l₁ := [(a, c)]) (l₂ := L))⟩
/-- a cell taken out, another one put there -/
theorem SRL.get (r : SRL ρ as S L) : ∀ {k : Nat}, S[k]? = some m → m ≠ .gone → ∃ a c R, as[k]? = some a ∧ CR ρ m c ∧ L.Perm ((a, c) :: R) ∧ (∀ m' c', CR ρ m' c' → ∃ L', SRL ρ as (S.set k m') L' ∧ L'.Perm ((a, c') :: R)) ∧ ∃ L', SRL ρ as (S.set k .gone) L' ∧ L'.Perm R := by
  induction r with
  | nil => intro k e; cases e
  | @cons a0 m0 c0 as S L r t ih =>
    intro k e hg
    cases k with
    | zero =>
      cases e
      exact ⟨a0, c0, L, rfl, r, List.Perm.refl _, fun m' c' q => ⟨_, .cons q t, List.Perm.refl _⟩, _, .gone t, List.Perm.refl _⟩
    | succ k =>
      obtain ⟨a, c, R, h1, h2, h3, h4, L', h5, h6⟩ := ih (k := k) e hg
      refine ⟨a, c, (a0, c0) :: R, h1, h2, (List.Perm.cons _ h3).trans (List.Perm.swap _ _ _), fun m' c' q => ?_, _, .cons r h5, List.Perm.cons _ h6⟩
      obtain ⟨L2, q1, q2⟩ := h4 m' c' q
      exact ⟨_, .cons r q1, (List.Perm.cons _ q2).trans (List.Perm.swap _ _ _)⟩
  | @gone a0 as S L t ih =>
    intro k e hg
    cases k with
    | zero => cases e; exact absurd rfl hg
    | succ k =>
      obtain ⟨a, c, R, h1, h2, h3, h4, L', h5, h6⟩ := ih (k := k) e hg
      refine ⟨a, c, R, h1, h2, h3, fun m' c' q => ?_, _, .gone h5, h6⟩
      obtain ⟨L2, q1, q2⟩ := h4 m' c' q
      exact ⟨_, .gone q1, q2⟩
theorem SR.get (r : SR ρ S C) (e : S[k]? = some m) (hg : m ≠ .gone) : ∃ a c R, ρ[k]? = some a ∧ CR ρ m c ∧ C.Perm ((a, c) :: R) ∧ (∀ m' c', CR ρ m' c' → SR ρ (S.set k m') ((a, c') :: R)) ∧ SR ρ (S.set k .gone) R := by
  obtain ⟨L, h1, h2⟩ := r
  obtain ⟨a, c, R, q1, q2, q3, q4, L', q5, q6⟩ := h1.get e hg
  refine ⟨a, c, R, q1, q2, h2.trans q3, fun m' c' q => ?_, L', q5, q6.symm⟩
  obtain ⟨L2, z1, z2⟩ := q4 m' c' q
  exact ⟨L2, z1, z2.symm⟩
/-- a cell put where none is -/
theorem SRL.put (r : SRL ρ as S L) (h : CR ρ m c) : ∀ {k : Nat}, S[k]? = some .gone → as[k]? = some a → ∃ L', SRL ρ as (S.set k m) L' ∧ L'.Perm ((a, c) :: L) := by
  induction r with
  | nil => intro k e; cases e
  | @cons a0 m0 c0 as S L r t ih =>
    intro k e ea
    cases k with
    | zero => cases e; cases r
    | succ k =>
      obtain ⟨L', h1, h2⟩ := ih (k := k) e ea
      exact ⟨_, .cons r h1, (List.Perm.cons _ h2).trans (List.Perm.swap _ _ _)⟩
  | @gone a0 as S L t ih =>
    intro k e ea
    cases k with
    | zero => cases ea; exact ⟨_, .cons h t, List.Perm.refl _⟩
    | succ k =>
      obtain ⟨L', h1, h2⟩ := ih (k := k) e ea
      exact ⟨_, .gone h1, h2⟩
theorem SR.put (r : SR ρ S C) (h : CR ρ m c) (e : S[k]? = some .gone) (ea : ρ[k]? = some a) : SR ρ (S.set k m) ((a, c) :: C) := by
  obtain ⟨L, h1, h2⟩ := r
  obtain ⟨L', q1, q2⟩ := h1.put h e ea
  exact ⟨L', q1, (List.Perm.cons _ h2).trans q2.symm⟩

theorem frs_pure {fs : List (Str × Val)} {gs gs' : List (Str × Dat)} (h : pureFs fs = some gs) (r : FR ρ fs gs') : gs' = gs := by
  induction r generalizing gs with
  | nil => cases h; rfl
  | @cons f x d xs ds r t ih =>
    cases x with
    | p e =>
      simp only [pureFs] at h
      split at h
      · rename_i gs1 e1
        cases h
        rw [ih e1, show d = e from r]
      · cases h
    | r k => simp [pureFs] at h
theorem pure_frs {fs : List (Str × Val)} {gs : List (Str × Dat)} (h : pureFs fs = some gs) : FR ρ fs gs := by
  induction fs generalizing gs with
  | nil => cases h; exact .nil
  | cons y fs ih =>
    obtain ⟨f, x⟩ := y
    cases x with
    | p e =>
      simp only [pureFs] at h
      split at h
      · rename_i gs1 e1
        cases h
        exact .cons rfl (ih e1)
      · cases h
    | r k => simp [pureFs] at h
theorem frz_fz (h : frz m = some d) (r : CR ρ m c) : fz c = d := by
  cases m with
  | lst ds => cases h; cases r; rfl
  | dK ds => cases h; cases r; rfl
  | ins n fs =>
    simp only [frz] at h
    split at h
    · rename_i gs e
      cases h
      obtain ⟨gs', rfl, r⟩ := r
      rw [frs_pure e r] <;> rfl
    · cases h
  | xd ds => cases h; cases r; rfl
  | gone => cases h
theorem frz_ng (h : frz m = some d) : m ≠ .gone := by
  intro q; subst q; cases h

/-! ### what a value is, seen through the cells -/
def Vw (K : PySem.W.Frag) (C : Cells) (F : Hp) (d : Dat) (v : V) : Prop := Rep K F d v ∨ ∃ a c, v = .ref a ∧ (a, c) ∈ C ∧ fz c = d
inductive Vws (K : PySem.W.Frag) (C : Cells) (F : Hp) : List Dat → List V → Prop where
  | nil : Vws K C F [] []
  | cons {d : Dat} {v : V} {ds : List Dat} {vs : List V} (h : Vw K C F d v) (t : Vws K C F ds vs) : Vws K C F (d :: ds) (v :: vs)
theorem vw_of {K : PySem.W.Frag} {F : Hp} {dx : Dat} {v : V} (r : VR ρ x dx) (s : SR ρ S C) (h : rdS S x = some d) (q : Rep K F dx v) : Vw K C F d v := by
  cases x with
  | p e =>
    cases h
    rw [show dx = d from r] at q
    exact .inl q
  | r k =>
    obtain ⟨a, h1, rfl⟩ := r
    simp only [rdS] at h
    split at h
    · rename_i m e
      obtain ⟨a', c, R, q1, q2, q3, _⟩ := s.get e (frz_ng h)
      rw [h1] at q1
      cases q1
      exact .inr ⟨a, c, rep_v.1 q, q3.symm.subset List.mem_cons_self, frz_fz h q2⟩
    · cases h
theorem vws_of {K : PySem.W.Frag} {F : Hp} {xs : List Val} {ds es : List Dat} {vs : List V} (r : VRs ρ xs es) (s : SR ρ S C) (h : rdSs S xs = some ds) (q : Reps K F es vs) : Vws K C F ds vs := by
  induction r generalizing ds vs with
  | nil =>
    cases h
    rw [reps_nil.1 q]
    exact .nil
  | @cons x d xs es r t ih =>
    obtain ⟨v, vs', rfl, q1, q2⟩ := reps_cons.1 q
    simp only [rdSs] at h
    split at h
    · rename_i d' e1
      split at h
      · rename_i ds' e2
        cases h
        exact .cons (vw_of r s e1 q1) (ih e2 q2)
      · cases h
    · cases h
end

/-! ### an expression's mirror -/
def EvAX (K : PySem.W.Frag) (W : WX) (ta : TA) (Γ : Gam) (C : Cells) (x : Exn) (C' : Cells) : Prop := ∀ σ H F, Sat K Γ C σ H F → ∀ Q : List V → Hp → Prop,
  (∀ d C'' H' F', XSat (frH H) x C' d C'' → Post C F H C'' F' H' → Sat K Γ C'' σ H' F' → W (.ref (clOf K x.cls)) d σ H') → ta σ H Q
def EvTX (K : PySem.W.Frag) (W : WX) (tt : TT) (Γ : Gam) (C : Cells) (x : Exn) (C' : Cells) : Prop := ∀ σ H F, Sat K Γ C σ H F → ∀ Q : Bool → Hp → Prop,
  (∀ d C'' H' F', XSat (frH H) x C' d C'' → Post C F H C'' F' H' → Sat K Γ C'' σ H' F' → W (.ref (clOf K x.cls)) d σ H') → tt σ H Q
def XOk (K : PySem.W.Frag) (W : WX) (te : TE) (ρ : List Addr) (G : Gam) (C : Cells) : XR → Prop
  | .v x S' => ∃ d C', VR ρ x d ∧ SR ρ S' C' ∧ Ev K te G C d C'
  | .n m S' => ∃ c C', CR ρ m c ∧ SR ρ S' C' ∧ EvN K te G C c C'
  | .ex e S' => ∃ C', SR ρ S' C' ∧ EvX K W te G C e C'
  | .bad => True
def TOk (K : PySem.W.Frag) (W : WX) (tt : TT) (ρ : List Addr) (G : Gam) (C : Cells) : TR → Prop
  | .ok b S' => ∃ C', SR ρ S' C' ∧ EvT K tt G C b C'
  | .ex e S' => ∃ C', SR ρ S' C' ∧ EvTX K W tt G C e C'
  | .bad => True
def AOk (K : PySem.W.Frag) (W : WX) (ta : TA) (ρ : List Addr) (G : Gam) (C : Cells) : AR → Prop
  | .a xs S' => ∃ ds C', VRs ρ xs ds ∧ SR ρ S' C' ∧ EvA K ta G C ds C'
  | .ex e S' => ∃ C', SR ρ S' C' ∧ EvAX K W ta G C e C'
  | .bad => True
def EM (K : PySem.W.Frag) (W : WX) (P : List (Nat × Addr)) (te : TE) (m : ME) : Prop := ∀ ρ Γ S G C, GR P ρ Γ G → SR ρ S C → XOk K W te ρ G C (m Γ S)
def TM (K : PySem.W.Frag) (W : WX) (P : List (Nat × Addr)) (tt : TT) (m : MT) : Prop := ∀ ρ Γ S G C, GR P ρ Γ G → SR ρ S C → TOk K W tt ρ G C (m Γ S)
def argsM : List ME → MEnv → Store → AR
  | [], _, S => .a [] S
  | m :: ms, Γ, S => match m Γ S with
    | .v x S1 => match argsM ms Γ S1 with
      | .a xs S2 => .a (x :: xs) S2
      | .ex e S2 => .ex e S2
      | .bad => .bad
    | .n c S1 => match frz c with
      | some d => match argsM ms Γ S1 with
        | .a xs S2 => .a (.p d :: xs) S2
        | .ex e S2 => .ex e S2
        | .bad => .bad
      | none => .bad
    | .ex e S1 => .ex e S1
    | .bad => .bad
def AM (K : PySem.W.Frag) (W : WX) (P : List (Nat × Addr)) (ta : TA) (ms : List ME) : Prop := ∀ ρ Γ S G C, GR P ρ Γ G → SR ρ S C → AOk K W ta ρ G C (argsM ms Γ S)

section
variable {K : PySem.W.Frag} {W : WX} {P : List (Nat × Addr)} {ρ : List Addr} {Γ : MEnv} {S S1 : Store} {G : Gam} {C C1 C2 : Cells} {te ta tb : TE} {tt tu : TT} {m ma mb : ME} {c : Cell} {mc : MCell} {d : Dat}
/-- the object that is frozen may be an old cell -/
theorem ev_frz {a : Addr} {R : Cells} (h : Ev K te G C (dR a) C1) (hp : C1.Perm ((a, c) :: R)) : Ev K te G C (fz c) R := fun σ H F s Q q => h σ H F s Q fun v H' F' p s' r => by
  obtain rfl := rep_v.1 r
  have p' := p.perm hp
  obtain ⟨F2, e, l2, c2, r2, fr⟩ := freeze1 (s'.cel.perm hp) s'.le
  refine q (.ref a) H' F2 ⟨p.kx.trans e, p.keep, fun b h1 ⟨o, h2⟩ h3 => ?_, fun b hb => p'.new b (List.mem_cons_of_mem _ hb), p.st⟩ ⟨l2, s'.gam.kx e, c2⟩ r2
  have z : b ≠ a := fun q => by
    subst q
    rcases p'.new b List.mem_cons_self with y | y
    · exact h1 y
    · rw [h2] at y; cases y
  rw [fr b z]
  exact p.nw b h1 ⟨o, h2⟩ h3
theorem XOk.n_v (hf : frz mc = some d) (h : XOk K W te ρ G C (.n mc S)) : XOk K W te ρ G C (.v (.p d) S) := by
  obtain ⟨c, C', h1, h2, h3⟩ := h
  refine ⟨d, C', rfl, h2, ?_⟩
  have := h3.fz
  rwa [frz_fz hf h1] at this
theorem am_nil : AM K W P tNil [] := fun ρ Γ S G C g s => ⟨[], C, .nil, s, ea_nil⟩
theorem eax_head {tr : TA} {e : Exn} (h : EvX K W te G C e C1) : EvAX K W (tCons te tr) G C e C1 := fun σ H F s Q q => h σ H F s _ fun d C3 H' F' z p s' => q d C3 H' F' z p s'
theorem eax_tail {tr : TA} {e : Exn} (h : Ev K te G C d C1) (ht : EvAX K W tr G C1 e C2) : EvAX K W (tCons te tr) G C e C2 := fun σ H F s Q q =>
  h σ H F s _ fun v H1 F1 p1 s1 r1 => ht σ H1 F1 s1 _ fun d C3 H' F' z p s' => q d C3 H' F' (z.st p1) (p1.trans p) s'
theorem am_v {x : Val} {tr : TA} {ms : List ME} (g : GR P ρ Γ G) (h : XOk K W te ρ G C (.v x S1)) (ht : AM K W P tr ms) : AOk K W (tCons te tr) ρ G C (match argsM ms Γ S1 with
      | .a xs S2 => .a (x :: xs) S2
      | .ex e S2 => .ex e S2
      | .bad => .bad) := by
  obtain ⟨d, C1, h1, h2, h3⟩ := h
  have h4 := ht ρ Γ S1 G C1 g h2
  revert h4
  cases argsM ms Γ S1 with
  | a xs S2 => exact fun ⟨ds, C2, q1, q2, q3⟩ => ⟨d :: ds, C2, .cons h1 q1, q2, ea_cons h3 q3⟩
  | ex e S2 => exact fun ⟨C2, q1, q2⟩ => ⟨C2, q1, eax_tail h3 q2⟩
  | bad => exact fun _ => trivial
theorem am_cons {tr : TA} {ms : List ME} (h : EM K W P te m) (ht : AM K W P tr ms) : AM K W P (tCons te tr) (m :: ms) := fun ρ Γ S G C g s => by
  have h0 := h ρ Γ S G C g s
  simp only [argsM]
  cases e : m Γ S with
  | v x S1 =>
    rw [e] at h0
    exact am_v g h0 ht
  | n mc S1 =>
    rw [e] at h0
    dsimp only
    cases hf : frz mc with
    | some d => exact am_v g (h0.n_v hf) ht
    | none => trivial
  | ex e' S1 =>
    rw [e] at h0
    obtain ⟨C', q1, q2⟩ := h0
    exact ⟨C', q1, eax_head q2⟩
  | bad => trivial

/-! ### built-in operations by values -/
inductive PR where
  | d (d : Dat)
  | n (c : MCell)
  | no
def PR.out (r : PR) (S : Store) : XR := match r with
  | .d d => .v (.p d) S
  | .n c => .n c S
  | .no => .bad
def RvD (K : PySem.W.Frag) (r : List V → Hp → VK → Prop) (ds : List Dat) (d : Dat) : Prop := ∀ vs H F C, Le F H → CSat K C H F → Vws K C F ds vs → ∀ Q : VK,
  (∀ v H' F', Post C F H C F' H' → Le F' H' → CSat K C H' F' → Rep K F' d v → Q v H') → r vs H Q
def RvN (K : PySem.W.Frag) (r : List V → Hp → VK → Prop) (ds : List Dat) (c : Cell) : Prop := ∀ vs H F C, Le F H → CSat K C H F → Vws K C F ds vs → ∀ Q : VK,
  (∀ a H' F', Post C F H ((a, c) :: C) F' H' → Le F' H' → CSat K ((a, c) :: C) H' F' → H a = none → Q (.ref a) H') → r vs H Q
def POk1 (K : PySem.W.Frag) (r : List V → Hp → VK → Prop) (ds : List Dat) : PR → Prop
  | .d d => RvD K r ds d
  | .n m => ∃ c, CR [] m c ∧ RvN K r ds c
  | .no => True
/-- f tells what the operation r is worth -/
def POk (K : PySem.W.Frag) (r : List V → Hp → VK → Prop) (f : List Dat → PR) : Prop := ∀ ds, POk1 K r ds (f ds)
def opM (f : List Dat → PR) (ma mb : ME) : ME := fun Γ S => (ma Γ S).get fun x S1 => (mb Γ S1).get fun y S2 => match rdS S2 x, rdS S2 y with
  | some d, some e => (f [d, e]).out S2
  | _, _ => .bad
def callB (f : List Dat → PR) (ms : List ME) : ME := fun Γ S => match argsM ms Γ S with
  | .a xs S1 => match rdSs S1 xs with
    | some ds => (f ds).out S1
    | none => .bad
  | .ex e S1 => .ex e S1
  | .bad => .bad
def unM (f : List Dat → PR) (ma : ME) : ME := fun Γ S => (ma Γ S).get fun x S1 => match rdS S1 x with
  | some d => (f [d]).out S1
  | none => .bad
theorem CR.nil_any {ρ : List Addr} (h : CR [] mc c) : CR ρ mc c := h.mono (List.nil_prefix)
theorem ex_get {k : Val → Store → XR} {Cs : Cells} (g : GR P ρ Γ G) (s : SR ρ S Cs) (h : EM K W P ta m) {te : TE} (hx : ∀ e C', EvX K W ta G Cs e C' → EvX K W te G C e C')
    (hk : ∀ x S1 d C1, VR ρ x d → SR ρ S1 C1 → Ev K ta G Cs d C1 → XOk K W te ρ G C (k x S1)) : XOk K W te ρ G C ((m Γ S).get k) := by
  have h0 := h ρ Γ S G Cs g s
  revert h0
  cases m Γ S with
  | v x S1 => exact fun ⟨d, C1, h1, h2, h3⟩ => hk x S1 d C1 h1 h2 h3
  | n mc S1 =>
    intro h0
    show XOk K W te ρ G C (match frz mc with
      | some d => k (.p d) S1
      | none => .bad)
    cases hf : frz mc with
    | some d =>
      obtain ⟨d', C1, h1, h2, h3⟩ := h0.n_v hf
      exact hk _ S1 d' C1 h1 h2 h3
    | none => trivial
  | ex e S1 => exact fun ⟨C', q1, q2⟩ => ⟨C', q1, hx e C' q2⟩
  | bad => exact fun _ => trivial
theorem out_ok {r : List V → Hp → VK → Prop} {ta : TA} {es ds : List Dat} {f : List Dat → PR} {xs : List Val} (hr : POk K r f) (h1 : VRs ρ xs es) (h2 : SR ρ S C1) (h3 : EvA K ta G C es C1) (hd : rdSs S xs = some ds) :
    XOk K W (tCB r ta) ρ G C ((f ds).out S) := by
  have h4 := hr ds
  revert h4
  cases f ds with
  | d d => exact fun h4 => ⟨d, C1, rfl, h2, fun σ H F s Q q => h3 σ H F s _ fun vs H1 F1 p1 s1 r1 => h4 vs H1 F1 C1 s1.le s1.cel (vws_of h1 h2 hd r1) Q fun v H2 F2 p2 l2 c2 r2 =>
      q v H2 F2 (p1.trans p2) ⟨l2, s1.gam.kx p2.kx, c2⟩ r2⟩
  | n m => exact fun ⟨c, h4, h5⟩ => ⟨c, C1, h4.nil_any, h2, fun σ H F s Q q => h3 σ H F s _ fun vs H1 F1 p1 s1 r1 => h5 vs H1 F1 C1 s1.le s1.cel (vws_of h1 h2 hd r1) Q fun a H2 F2 p2 l2 c2 hn =>
      q a H2 F2 (p1.trans p2) ⟨l2, s1.gam.kx p2.kx, c2⟩ (p1.st _ hn)⟩
  | no => exact fun _ => trivial
theorem em_cb {r : List V → Hp → VK → Prop} {ta : TA} {ms : List ME} {f : List Dat → PR} (hr : POk K r f) (h : AM K W P ta ms) : EM K W P (tCB r ta) (callB f ms) := fun ρ Γ S G C g s => by
  have h0 := h ρ Γ S G C g s
  unfold callB
  revert h0
  cases argsM ms Γ S with
  | a xs S1 =>
    intro ⟨es, C1, h1, h2, h3⟩
    dsimp only
    cases hd : rdSs S1 xs with
    | some ds => exact out_ok hr h1 h2 h3 hd
    | none => trivial
  | ex e S1 => exact fun ⟨C', q1, q2⟩ => ⟨C', q1, fun σ H F s Q q => q2 σ H F s _ q⟩
  | bad => exact fun _ => trivial
/-- what an operation r, behind h, is worth -/
theorem fin_ok {te : TE} {r : List V → Hp → VK → Prop} {es ds : List Dat} {f : List Dat → PR} {xs : List Val} (hr : POk K r f) (h1 : VRs ρ xs es) (h2 : SR ρ S C1)
    (h3 : ∀ σ H F, Sat K G C σ H F → ∀ Q : VK, (∀ vs H' F', Post C F H C1 F' H' → Sat K G C1 σ H' F' → Reps K F' es vs → r vs H' Q) → te σ H Q) (hd : rdSs S xs = some ds) : XOk K W te ρ G C ((f ds).out S) := by
  have h4 := hr ds
  revert h4
  cases f ds with
  | d d => exact fun h4 => ⟨d, C1, rfl, h2, fun σ H F s Q q => h3 σ H F s _ fun vs H1 F1 p1 s1 r1 => h4 vs H1 F1 C1 s1.le s1.cel (vws_of h1 h2 hd r1) Q fun v H2 F2 p2 l2 c2 r2 =>
      q v H2 F2 (p1.trans p2) ⟨l2, s1.gam.kx p2.kx, c2⟩ r2⟩
  | n m => exact fun ⟨c, h4, h5⟩ => ⟨c, C1, h4.nil_any, h2, fun σ H F s Q q => h3 σ H F s _ fun vs H1 F1 p1 s1 r1 => h5 vs H1 F1 C1 s1.le s1.cel (vws_of h1 h2 hd r1) Q fun a H2 F2 p2 l2 c2 hn =>
      q a H2 F2 (p1.trans p2) ⟨l2, s1.gam.kx p2.kx, c2⟩ (p1.st _ hn)⟩
  | no => exact fun _ => trivial
theorem rd2 {x y : Val} {d e : Dat} (h1 : rdS S x = some d) (h2 : rdS S y = some e) : rdSs S [x, y] = some [d, e] := by simp only [rdSs, h1, h2]
theorem rd1 {x : Val} {d : Dat} (h1 : rdS S x = some d) : rdSs S [x] = some [d] := by simp only [rdSs, h1]
theorem em_op {r : R2} {f : List Dat → PR} (hr : POk K (r2L r) f) (ha : EM K W P ta ma) (hb : EM K W P tb mb) : EM K W P (tOp r ta tb) (opM f ma mb) := fun ρ Γ S G C g s => by
  refine ex_get g s ha (fun e C' h σ H F s Q q => h σ H F s _ q) fun x S1 d1 C1 v1 s1 e1 => ?_
  refine ex_get g s1 hb (fun e C' h σ H F s Q q => e1 σ H F s _ fun v H1 F1 p1 s1 r1 => h σ H1 F1 s1 _ fun d C3 H2 F2 z p2 s2 => q d C3 H2 F2 (z.st p1) (p1.trans p2) s2) fun y S2 d2 C2 v2 s2 e2 => ?_
  split
  · rename_i d e hd he
    refine fin_ok hr (.cons v1 (.cons v2 .nil)) s2 (fun σ H F s Q q => ?_) (rd2 hd he)
    refine e1 σ H F s _ fun v H1 F1 p1 s1 r1 => e2 σ H1 F1 s1 _ fun w H2 F2 p2 s2 r2 => ?_
    obtain ⟨x', y', e, z⟩ := q [v, w] H2 F2 (p1.trans p2) s2 (reps_cons.2 ⟨v, [w], rfl, r1.kx p2.kx, reps_cons.2 ⟨w, [], rfl, r2, reps_nil.2 rfl⟩⟩)
    cases e
    exact z
  · trivial
theorem em_un {r : V → Hp → VK → Prop} {f : List Dat → PR} (hr : POk K (fun vs H Q => ∃ x, vs = [x] ∧ r x H Q) f) (ha : EM K W P ta ma) : EM K W P (tUn r ta) (unM f ma) := fun ρ Γ S G C g s => by
  refine ex_get g s ha (fun e C' h σ H F s Q q => h σ H F s _ q) fun x S1 d1 C1 v1 s1 e1 => ?_
  split
  · rename_i d hd
    refine fin_ok hr (.cons v1 .nil) s1 (fun σ H F s Q q => ?_) (rd1 hd)
    refine e1 σ H F s _ fun v H1 F1 p1 s1 r1 => ?_
    obtain ⟨x', e, z⟩ := q [v] H1 F1 p1 s1 (reps_cons.2 ⟨v, [], rfl, r1, reps_nil.2 rfl⟩)
    cases e
    exact z
  · trivial

/-! ### names and constants -/
def varM (i : Nat) : ME := fun Γ S => match Γ[i]? with
  | some (some x) => .v x S
  | _ => .bad
def conM (x : V) : ME := fun _ S => .v (.p (.v x)) S
theorem em_var {i : Nat} : EM K W P (tVar i) (varM i) := fun ρ Γ S G C g s => by
  unfold varM
  split
  · rename_i x e
    obtain ⟨d, h1, h2⟩ := g.at_ i x e
    exact ⟨d, C, h2, s, ev_var h1⟩
  · trivial
theorem em_con {x : V} : EM K W P (tC x) (conM x) := fun ρ Γ S G C g s => ⟨_, C, rfl, s, ev_c⟩

def glbM (x : Str) : ME := fun _ S => .v (.p (.glb x)) S
theorem em_glb {x : Str} {a : Addr} (h : PySem.W.nsIn K mainGlobals x = some (some (.ref a))) : EM K W P (tC (.ref a)) (glbM x) := fun ρ Γ S G C g s =>
  ⟨_, C, rfl, s, fun σ H F s Q q => q _ H F Post.refl s (rep_glb.2 ⟨by rw [clOf_of h], ⟨_, h⟩⟩)⟩

/-! ### truth -/
def XR.tst (r : XR) (k : Bool → Store → TR) : TR := match r with
  | .v (.p (.v (.bl b))) S => k b S
  | .ex e S => .ex e S
  | _ => .bad
def tstM (m : ME) : MT := fun Γ S => (m Γ S).tst fun b S => .ok b S
theorem tm_tst {tt : TT} (h : EM K W P te m) (hv : ∀ G C b C1, Ev K te G C (dB b) C1 → EvT K tt G C b C1) (hx : ∀ G C e C1, EvX K W te G C e C1 → EvTX K W tt G C e C1) : TM K W P tt (tstM m) := fun ρ Γ S G C g s => by
  have h0 := h ρ Γ S G C g s
  unfold tstM XR.tst
  revert h0
  cases m Γ S with
  | v x S1 =>
    cases x with
    | p d =>
      cases d with
      | v u =>
        cases u with
        | bl b => exact fun ⟨d, C1, h1, h2, h3⟩ => ⟨C1, h2, hv _ _ _ _ (by rw [show d = dB b from h1] at h3; exact h3)⟩
        | _ => exact fun _ => trivial
      | _ => exact fun _ => trivial
    | r k => exact fun _ => trivial
  | n mc S1 => exact fun _ => trivial
  | ex e S1 => exact fun ⟨C', q1, q2⟩ => ⟨C', q1, hx _ _ _ _ q2⟩
  | bad => exact fun _ => trivial
theorem tm_test (h : EM K W P te m) : TM K W P (tTest te) (tstM m) := tm_tst h
  (fun G C b C1 h σ H F s Q q => h σ H F s _ fun v H1 F1 p1 s1 r1 => ⟨b, rep_v.1 r1, q H1 F1 p1 s1⟩) fun G C e C1 h σ H F s Q q => h σ H F s _ q
theorem tm_b (h : EM K W P te m) : TM K W P (tB te) (tstM m) := tm_tst h
  (fun G C b C1 h σ H F s Q q => h σ H F s _ fun v H1 F1 p1 s1 r1 => ⟨b, rep_v.1 r1, q H1 F1 p1 s1⟩) fun G C e C1 h σ H F s Q q => h σ H F s _ q
def TR.get (r : TR) (k : Bool → Store → TR) : TR := match r with
  | .ok b S => k b S
  | .ex e S => .ex e S
  | .bad => .bad
def TR.getX (r : TR) (k : Bool → Store → XR) : XR := match r with
  | .ok b S => k b S
  | .ex e S => .ex e S
  | .bad => .bad
def notT (m : MT) : MT := fun Γ S => (m Γ S).get fun b S => .ok (!b) S
def andT (m n : MT) : MT := fun Γ S => (m Γ S).get fun b S1 => match b with
  | true => n Γ S1
  | false => .ok false S1
def orT (m n : MT) : MT := fun Γ S => (m Γ S).get fun b S1 => match b with
  | true => .ok true S1
  | false => n Γ S1
theorem et_get {tt tu : TT} {m : MT} {k : Bool → Store → TR} (g : GR P ρ Γ G) (s : SR ρ S C) (h : TM K W P tt m) (hx : ∀ e C', EvTX K W tt G C e C' → EvTX K W tu G C e C')
    (hk : ∀ b S1 C1, SR ρ S1 C1 → EvT K tt G C b C1 → TOk K W tu ρ G C (k b S1)) : TOk K W tu ρ G C ((m Γ S).get k) := by
  have h0 := h ρ Γ S G C g s
  revert h0
  cases m Γ S with
  | ok b S1 => exact fun ⟨C1, h2, h3⟩ => hk b S1 C1 h2 h3
  | ex e S1 => exact fun ⟨C', q1, q2⟩ => ⟨C', q1, hx e C' q2⟩
  | bad => exact fun _ => trivial
theorem et_getX {tt : TT} {te : TE} {m : MT} {k : Bool → Store → XR} (g : GR P ρ Γ G) (s : SR ρ S C) (h : TM K W P tt m) (hx : ∀ e C', EvTX K W tt G C e C' → EvX K W te G C e C')
    (hk : ∀ b S1 C1, SR ρ S1 C1 → EvT K tt G C b C1 → XOk K W te ρ G C (k b S1)) : XOk K W te ρ G C ((m Γ S).getX k) := by
  have h0 := h ρ Γ S G C g s
  revert h0
  cases m Γ S with
  | ok b S1 => exact fun ⟨C1, h2, h3⟩ => hk b S1 C1 h2 h3
  | ex e S1 => exact fun ⟨C', q1, q2⟩ => ⟨C', q1, hx e C' q2⟩
  | bad => exact fun _ => trivial
theorem tm_not {m : MT} (h : TM K W P tt m) : TM K W P (tNot tt) (notT m) := fun ρ Γ S G C g s => by
  refine et_get (tu := tNot tt) g s h (fun e C' h σ H F s Q q => h σ H F s _ q) fun b S1 C1 s1 e1 => ?_
  exact ⟨C1, s1, fun σ H F s Q q => e1 σ H F s _ q⟩
theorem tok_seq {tu tv : TT} {C1 : Cells} {r : TR} (h : TOk K W tu ρ G C1 r) (hv : ∀ b C2, EvT K tu G C1 b C2 → EvT K tv G C b C2) (hx : ∀ e C2, EvTX K W tu G C1 e C2 → EvTX K W tv G C e C2) : TOk K W tv ρ G C r := by
  cases r with
  | ok b S1 => exact let ⟨C2, h2, h3⟩ := h; ⟨C2, h2, hv _ _ h3⟩
  | ex e S1 => exact let ⟨C2, h2, h3⟩ := h; ⟨C2, h2, hx _ _ h3⟩
  | bad => trivial
theorem xok_seq {te tf : TE} {C1 : Cells} {r : XR} (h : XOk K W te ρ G C1 r) (hv : ∀ d C2, Ev K te G C1 d C2 → Ev K tf G C d C2) (hn : ∀ c C2, EvN K te G C1 c C2 → EvN K tf G C c C2) (hx : ∀ e C2, EvX K W te G C1 e C2 → EvX K W tf G C e C2) : XOk K W tf ρ G C r := by
  cases r with
  | v x S1 => exact let ⟨d, C2, h1, h2, h3⟩ := h; ⟨d, C2, h1, h2, hv _ _ h3⟩
  | n x S1 => exact let ⟨d, C2, h1, h2, h3⟩ := h; ⟨d, C2, h1, h2, hn _ _ h3⟩
  | ex e S1 => exact let ⟨C2, h2, h3⟩ := h; ⟨C2, h2, hx _ _ h3⟩
  | bad => trivial
theorem tm_and {m n : MT} (h : TM K W P tt m) (h' : TM K W P tu n) : TM K W P (tAnd tt tu) (andT m n) := fun ρ Γ S G C g s => by
  refine et_get (tu := tAnd tt tu) g s h (fun e C' h σ H F s Q q => h σ H F s _ q) fun b S1 C1 s1 e1 => ?_
  cases b with
  | true => exact tok_seq (h' ρ Γ S1 G C1 g s1) (fun b C2 h2 σ H F s Q q => e1 σ H F s _ fun H1 F1 p1 s1 => h2 σ H1 F1 s1 _ fun H2 F2 p2 s2 => q H2 F2 (p1.trans p2) s2) fun e C2 h2 σ H F s Q q => e1 σ H F s _ fun H1 F1 p1 s1 => h2 σ H1 F1 s1 _ fun d C3 H2 F2 z p2 s2 => q d C3 H2 F2 (z.st p1) (p1.trans p2) s2
  | false => exact ⟨C1, s1, fun σ H F s Q q => e1 σ H F s _ fun H1 F1 p1 s1 => q H1 F1 p1 s1⟩
theorem tm_or {m n : MT} (h : TM K W P tt m) (h' : TM K W P tu n) : TM K W P (tOr tt tu) (orT m n) := fun ρ Γ S G C g s => by
  refine et_get (tu := tOr tt tu) g s h (fun e C' h σ H F s Q q => h σ H F s _ q) fun b S1 C1 s1 e1 => ?_
  cases b with
  | false => exact tok_seq (h' ρ Γ S1 G C1 g s1) (fun b C2 h2 σ H F s Q q => e1 σ H F s _ fun H1 F1 p1 s1 => h2 σ H1 F1 s1 _ fun H2 F2 p2 s2 => q H2 F2 (p1.trans p2) s2) fun e C2 h2 σ H F s Q q => e1 σ H F s _ fun H1 F1 p1 s1 => h2 σ H1 F1 s1 _ fun d C3 H2 F2 z p2 s2 => q d C3 H2 F2 (z.st p1) (p1.trans p2) s2
  | true => exact ⟨C1, s1, fun σ H F s Q q => e1 σ H F s _ fun H1 F1 p1 s1 => q H1 F1 p1 s1⟩
/-- not, and, or as values; a if c else b -/
def XR.bl (r : XR) (k : Bool → Store → XR) : XR := match r with
  | .v (.p (.v (.bl b))) S => k b S
  | .ex e S => .ex e S
  | _ => .bad
def notM (m : ME) : ME := fun Γ S => (m Γ S).bl fun b S => .v (.p (dB (!b))) S
def andM (m n : ME) : ME := fun Γ S => (m Γ S).bl fun b S1 => match b with
  | true => n Γ S1
  | false => .v (.p (dB false)) S1
def orM (m n : ME) : ME := fun Γ S => (m Γ S).bl fun b S1 => match b with
  | true => .v (.p (dB true)) S1
  | false => n Γ S1
def ifM (c : MT) (m n : ME) : ME := fun Γ S => (c Γ S).getX fun b S1 => match b with
  | true => m Γ S1
  | false => n Γ S1
theorem ex_bl {k : Bool → Store → XR} {te : TE} (g : GR P ρ Γ G) (s : SR ρ S C) (h : EM K W P ta m) (hx : ∀ e C', EvX K W ta G C e C' → EvX K W te G C e C')
    (hk : ∀ b S1 C1, SR ρ S1 C1 → Ev K ta G C (dB b) C1 → XOk K W te ρ G C (k b S1)) : XOk K W te ρ G C ((m Γ S).bl k) := by
  have h0 := h ρ Γ S G C g s
  unfold XR.bl
  revert h0
  cases m Γ S with
  | v x S1 =>
    cases x with
    | p d =>
      cases d with
      | v u =>
        cases u with
        | bl b => exact fun ⟨d, C1, h1, h2, h3⟩ => hk b S1 C1 h2 (by rw [show d = dB b from h1] at h3; exact h3)
        | _ => exact fun _ => trivial
      | _ => exact fun _ => trivial
    | r k => exact fun _ => trivial
  | n mc S1 => exact fun _ => trivial
  | ex e S1 => exact fun ⟨C', q1, q2⟩ => ⟨C', q1, hx _ _ q2⟩
  | bad => exact fun _ => trivial
theorem em_not (h : EM K W P ta ma) : EM K W P (tNotV ta) (notM ma) := fun ρ Γ S G C g s => by
  refine ex_bl (te := tNotV ta) g s h (fun e C' h σ H F s Q q => h σ H F s _ q) fun b S1 C1 s1 e1 => ?_
  exact ⟨_, C1, rfl, s1, fun σ H F s Q q => e1 σ H F s _ fun v H1 F1 p1 s1 r1 => ⟨b, rep_v.1 r1, q _ H1 F1 p1 s1 (rep_v.2 rfl)⟩⟩
theorem em_and (h : EM K W P ta ma) (h' : EM K W P tb mb) : EM K W P (tAndV ta tb) (andM ma mb) := fun ρ Γ S G C g s => by
  refine ex_bl (te := tAndV ta tb) g s h (fun e C' h σ H F s Q q => h σ H F s _ q) fun b S1 C1 s1 e1 => ?_
  cases b with
  | true => exact xok_seq (h' ρ Γ S1 G C1 g s1) (fun d C2 h2 σ H F s Q q => e1 σ H F s _ fun v H1 F1 p1 s1 r1 => ⟨true, rep_v.1 r1, h2 σ H1 F1 s1 _ fun v H2 F2 p2 s2 r2 => q v H2 F2 (p1.trans p2) s2 r2⟩) (fun c C2 h2 σ H F s Q q => e1 σ H F s _ fun v H1 F1 p1 s1 r1 => ⟨true, rep_v.1 r1, h2 σ H1 F1 s1 _ fun a H2 F2 p2 s2 hn => q a H2 F2 (p1.trans p2) s2 (p1.st _ hn)⟩) fun e C2 h2 σ H F s Q q => e1 σ H F s _ fun v H1 F1 p1 s1 r1 => ⟨true, rep_v.1 r1, h2 σ H1 F1 s1 _ fun d C3 H2 F2 z p2 s2 => q d C3 H2 F2 (z.st p1) (p1.trans p2) s2⟩
  | false => exact ⟨_, C1, rfl, s1, fun σ H F s Q q => e1 σ H F s _ fun v H1 F1 p1 s1 r1 => ⟨false, rep_v.1 r1, q _ H1 F1 p1 s1 (rep_v.2 rfl)⟩⟩
theorem em_or (h : EM K W P ta ma) (h' : EM K W P tb mb) : EM K W P (tOrV ta tb) (orM ma mb) := fun ρ Γ S G C g s => by
  refine ex_bl (te := tOrV ta tb) g s h (fun e C' h σ H F s Q q => h σ H F s _ q) fun b S1 C1 s1 e1 => ?_
  cases b with
  | false => exact xok_seq (h' ρ Γ S1 G C1 g s1) (fun d C2 h2 σ H F s Q q => e1 σ H F s _ fun v H1 F1 p1 s1 r1 => ⟨false, rep_v.1 r1, h2 σ H1 F1 s1 _ fun v H2 F2 p2 s2 r2 => q v H2 F2 (p1.trans p2) s2 r2⟩) (fun c C2 h2 σ H F s Q q => e1 σ H F s _ fun v H1 F1 p1 s1 r1 => ⟨false, rep_v.1 r1, h2 σ H1 F1 s1 _ fun a H2 F2 p2 s2 hn => q a H2 F2 (p1.trans p2) s2 (p1.st _ hn)⟩) fun e C2 h2 σ H F s Q q => e1 σ H F s _ fun v H1 F1 p1 s1 r1 => ⟨false, rep_v.1 r1, h2 σ H1 F1 s1 _ fun d C3 H2 F2 z p2 s2 => q d C3 H2 F2 (z.st p1) (p1.trans p2) s2⟩
  | true => exact ⟨_, C1, rfl, s1, fun σ H F s Q q => e1 σ H F s _ fun v H1 F1 p1 s1 r1 => ⟨true, rep_v.1 r1, q _ H1 F1 p1 s1 (rep_v.2 rfl)⟩⟩
theorem em_if {c : MT} (hc : TM K W P tt c) (h : EM K W P ta ma) (h' : EM K W P tb mb) : EM K W P (tIf tt ta tb) (ifM c ma mb) := fun ρ Γ S G C g s => by
  refine et_getX (te := tIf tt ta tb) g s hc (fun e C' h σ H F s Q q => h σ H F s _ q) fun b S1 C1 s1 e1 => ?_
  cases b with
  | true => exact xok_seq (h ρ Γ S1 G C1 g s1) (fun d C2 h2 σ H F s Q q => e1 σ H F s _ fun H1 F1 p1 s1 => h2 σ H1 F1 s1 _ fun v H2 F2 p2 s2 r2 => q v H2 F2 (p1.trans p2) s2 r2) (fun c C2 h2 σ H F s Q q => e1 σ H F s _ fun H1 F1 p1 s1 => h2 σ H1 F1 s1 _ fun a H2 F2 p2 s2 hn => q a H2 F2 (p1.trans p2) s2 (p1.st _ hn)) fun e C2 h2 σ H F s Q q => e1 σ H F s _ fun H1 F1 p1 s1 => h2 σ H1 F1 s1 _ fun d C3 H2 F2 z p2 s2 => q d C3 H2 F2 (z.st p1) (p1.trans p2) s2
  | false => exact xok_seq (h' ρ Γ S1 G C1 g s1) (fun d C2 h2 σ H F s Q q => e1 σ H F s _ fun H1 F1 p1 s1 => h2 σ H1 F1 s1 _ fun v H2 F2 p2 s2 r2 => q v H2 F2 (p1.trans p2) s2 r2) (fun c C2 h2 σ H F s Q q => e1 σ H F s _ fun H1 F1 p1 s1 => h2 σ H1 F1 s1 _ fun a H2 F2 p2 s2 hn => q a H2 F2 (p1.trans p2) s2 (p1.st _ hn)) fun e C2 h2 σ H F s Q q => e1 σ H F s _ fun H1 F1 p1 s1 => h2 σ H1 F1 s1 _ fun d C3 H2 F2 z p2 s2 => q d C3 H2 F2 (z.st p1) (p1.trans p2) s2
end
end Mr
end

section
set_option maxRecDepth 100000
set_option maxHeartbeats 4000000
/-! Mr2: a def's mirror, its promise, its use. -/
namespace Mr
open PySem L2 Dm

/-- how a def ends: a value, a new object, an exception; then the cells that it was given -/
inductive DR where
  | ret (x : Val) (S : Store)
  | new (c : MCell) (S : Store)
  | exc (e : Exn) (S : Store)
  | bad
abbrev DM := List Val → Store → DR

def pos : List Nat → Nat → Option Nat
  | [], _ => none
  | j :: js, k => if j = k then some 0 else match pos js k with
    | some i => some (i + 1)
    | none => none
def renV (fp : List Nat) : Val → Option Val
  | .p d => some (.p d)
  | .r k => match pos fp k with
    | some j => some (.r j)
    | none => none
def backV (fp : List Nat) : Val → Option Val
  | .p d => some (.p d)
  | .r k => match fp[k]? with
    | some j => some (.r j)
    | none => none
def mapVs (f : Val → Option Val) : List Val → Option (List Val)
  | [] => some []
  | x :: xs => match f x with
    | some y => match mapVs f xs with
      | some ys => some (y :: ys)
      | none => none
    | none => none
def mapFs (f : Val → Option Val) : List (Str × Val) → Option (List (Str × Val))
  | [] => some []
  | (n, x) :: xs => match f x with
    | some y => match mapFs f xs with
      | some ys => some ((n, y) :: ys)
      | none => none
    | none => none
def mapC (f : Val → Option Val) : MCell → Option MCell
  | .ins n fs => match mapFs f fs with
    | some gs => some (.ins n gs)
    | none => none
  | c => some c
def mapCs (f : Val → Option Val) : Store → Option Store
  | [] => some []
  | c :: cs => match mapC f c with
    | some d => match mapCs f cs with
      | some ds => some (d :: ds)
      | none => none
    | none => none
def refsV : Val → List Nat
  | .p _ => []
  | .r k => [k]
def refsVs : List Val → List Nat
  | [] => []
  | x :: xs => refsV x ++ refsVs xs
def refsFs : List (Str × Val) → List Nat
  | [] => []
  | (_, x) :: xs => refsV x ++ refsFs xs
def refsC : MCell → List Nat
  | .ins _ fs => refsFs fs
  | _ => []
def clos (S : Store) : Nat → List Nat → List Nat → List Nat
  | 0, _, acc => acc
  | _ + 1, [], acc => acc
  | n + 1, k :: ks, acc => match pos acc k with
    | some _ => clos S n ks acc
    | none => clos S n (refsC (S.getD k .gone) ++ ks) (acc ++ [k])
def fpOk (n : Nat) : List Nat → Bool
  | [] => true
  | k :: ks => decide (k < n) && (pos ks k).isNone && fpOk n ks
def rest (S : Store) : List Nat → Store
  | [] => S
  | k :: ks => rest (S.set k .gone) ks
def wr (S : Store) : List Nat → Store → Store
  | k :: ks, c :: cs => wr (S.set k c) ks cs
  | _, _ => S
def subS (S : Store) (fp : List Nat) : Store := fp.map fun k => S.getD k .gone
def backS (fp : List Nat) (S' : Store) : Option Store := match decide (S'.length = fp.length) with
  | true => mapCs (backV fp) S'
  | false => none
def backD (fp : List Nat) (S : Store) : DR → XR
  | .ret x S' => match backV fp x, backS fp S' with
    | some y, some cs => .v y (wr (rest S fp) fp cs)
    | _, _ => .bad
  | .new c S' => match mapC (backV fp) c, backS fp S' with
    | some y, some cs => match c with
      | .gone => .bad
      | _ => .n y (wr (rest S fp) fp cs)
    | _, _ => .bad
  | .exc e S' => match backS fp S' with
    | some cs => .ex e (wr (rest S fp) fp cs)
    | none => .bad
  | .bad => .bad
def callAt (m : DM) (xs : List Val) (S : Store) (fp : List Nat) : XR := match fpOk S.length fp with
  | true => match mapVs (renV fp) xs, mapCs (renV fp) (subS S fp) with
    | some ys, some T => backD fp S (m ys T)
    | _, _ => .bad
  | false => .bad
/-- m called with xs over the store S -/
def callD (m : DM) (xs : List Val) (S : Store) : XR := callAt m xs S (clos S 64 (refsVs xs) [])

/-! ### its promise -/
def DOk (ρ : List Addr) : DR → Out → Prop
  | .ret x S', o => ∃ d C', VR ρ x d ∧ SR ρ S' C' ∧ o = .ret d C'
  | .new m S', o => ∃ c C', CR ρ m c ∧ SR ρ S' C' ∧ o = .new c C'
  | .exc e S', o => ∃ C', SR ρ S' C' ∧ o = .exc e C'
  | .bad, _ => False
def MirF (m : DM) : Fam := fun p => ∃ ρ xs S, VRs ρ xs p.args ∧ SR ρ S p.cin ∧ DOk ρ (m xs S) p.out

section
variable {K : PySem.W.Frag} {W : WX} {P : List (Nat × Addr)} {ρ ρ' : List Addr} {fp : List Nat} {x y : Val} {d : Dat} {m : MCell} {c : Cell} {S T : Store} {C R L : Cells} {as : List Addr} {k : Nat} {a : Addr} {Γ : MEnv} {G : Gam}
def asOf (ρ : List Addr) (fp : List Nat) : List Addr := fp.map fun k => ρ.getD k 0
theorem pos_get {j : Nat} : ∀ {fp : List Nat}, pos fp k = some j → fp[j]? = some k
  | [], h => by cases h
  | i :: fp, h => by
    simp only [pos] at h
    split at h
    · rename_i e; cases h; rw [e] <;> rfl
    · split at h
      · rename_i j' e; cases h; exact pos_get (fp := fp) e
      · cases h
theorem pos_none : ∀ {fp : List Nat}, pos fp k = none → k ∉ fp
  | [], _ => by simp
  | i :: fp, h => by
    simp only [pos] at h
    split at h
    · cases h
    · rename_i e
      split at h
      · cases h
      · rename_i e2
        rw [List.mem_cons]
        exact fun q => q.elim (fun z => e z.symm) (pos_none e2)
theorem fpOk_nd {n : Nat} : ∀ {fp : List Nat}, fpOk n fp = true → fp.Nodup ∧ ∀ k ∈ fp, k < n
  | [], _ => ⟨List.nodup_nil, by simp⟩
  | k :: fp, h => by
    simp only [fpOk, Bool.and_eq_true, decide_eq_true_eq, Option.isNone_iff_eq_none] at h
    obtain ⟨h1, h2⟩ := fpOk_nd h.2
    exact ⟨List.nodup_cons.2 ⟨pos_none h.1.2, h1⟩, fun j m => by
      rcases List.mem_cons.1 m with rfl | m
      · exact h.1.1
      · exact h2 j m⟩
theorem getD_some (h : ρ[k]? = some a) : ρ.getD k 0 = a := by rw [List.getD_eq_getElem?_getD, h] <;> rfl
theorem as_get {j : Nat} (h : fp[j]? = some k) : (asOf ρ fp)[j]? = some (ρ.getD k 0) := by
  unfold asOf
  rw [List.getElem?_map, h] <;> rfl
theorem ren_vr (h : VR ρ x d) (e : renV fp x = some y) : VR (asOf ρ fp) y d := by
  cases x with
  | p d' => cases e; exact h
  | r k =>
    obtain ⟨a, h1, rfl⟩ := h
    simp only [renV] at e
    split at e
    · rename_i j ej
      cases e
      exact ⟨a, by rw [as_get (pos_get ej), getD_some h1], rfl⟩
    · cases e
theorem back_vr (hf : ∀ k ∈ fp, k < ρ.length) (h : VR (asOf ρ fp) x d) (e : backV fp x = some y) : VR ρ y d := by
  cases x with
  | p d' => cases e; exact h
  | r k =>
    obtain ⟨a, h1, rfl⟩ := h
    simp only [backV] at e
    split at e
    · rename_i j ej
      cases e
      rw [as_get ej] at h1
      cases h1
      have hj := hf j (List.mem_of_getElem? ej)
      exact ⟨_, by rw [List.getD_eq_getElem?_getD, List.getElem?_eq_getElem hj] <;> rfl, rfl⟩
    · cases e
theorem map_vrs {f : Val → Option Val} (hf : ∀ x y d, VR ρ x d → f x = some y → VR ρ' y d) {xs ys : List Val} {ds : List Dat} (h : VRs ρ xs ds) (e : mapVs f xs = some ys) : VRs ρ' ys ds := by
  induction h generalizing ys with
  | nil => cases e; exact .nil
  | cons h t ih =>
    simp only [mapVs] at e
    split at e
    · rename_i y e1
      split at e
      · rename_i ys' e2
        cases e
        exact .cons (hf _ _ _ h e1) (ih e2)
      · cases e
    · cases e
theorem map_frs {f : Val → Option Val} (hf : ∀ x y d, VR ρ x d → f x = some y → VR ρ' y d) {xs ys : List (Str × Val)} {ds : List (Str × Dat)} (h : FR ρ xs ds) (e : mapFs f xs = some ys) : FR ρ' ys ds := by
  induction h generalizing ys with
  | nil => cases e; exact .nil
  | cons h t ih =>
    simp only [mapFs] at e
    split at e
    · rename_i y e1
      split at e
      · rename_i ys' e2
        cases e
        exact .cons (hf _ _ _ h e1) (ih e2)
      · cases e
    · cases e
theorem map_cr {f : Val → Option Val} (hf : ∀ x y d, VR ρ x d → f x = some y → VR ρ' y d) {m' : MCell} (h : CR ρ m c) (e : mapC f m = some m') : CR ρ' m' c := by
  cases m with
  | lst ds => cases e; exact h
  | dK ds => cases e; exact h
  | xd ds => cases e; exact h
  | gone => exact h.elim
  | ins n fs =>
    obtain ⟨gs, rfl, h⟩ := h
    simp only [mapC] at e
    split at e
    · rename_i gs' e1
      cases e
      exact ⟨gs, rfl, map_frs hf h e1⟩
    · cases e
theorem map_srl {f : Val → Option Val} (hf : ∀ x y d, VR ρ x d → f x = some y → VR ρ' y d) {S' : Store} (h : SRL ρ as S L) (e : mapCs f S = some S') : SRL ρ' as S' L := by
  induction h generalizing S' with
  | nil => cases e; exact .nil
  | cons h t ih =>
    simp only [mapCs] at e
    split at e
    · rename_i y e1
      split at e
      · rename_i ys' e2
        cases e
        exact .cons (map_cr hf h e1) (ih e2)
      · cases e
    · cases e
  | gone t ih =>
    simp only [mapCs, mapC] at e
    split at e
    · rename_i ys' e2
      cases e
      exact .gone (ih e2)
    · cases e
theorem rest_get : ∀ {fp : List Nat} {S : Store}, (rest S fp)[k]? = if k ∈ fp then (S[k]?).map fun _ => .gone else S[k]?
  | [], S => by simp [rest]
  | j :: fp, S => by
    rw [rest, rest_get (fp := fp)]
    by_cases q : j = k
    · subst q
      have : (S.set j .gone)[j]? = (S[j]?).map fun _ => MCell.gone := by
        by_cases hl : j < S.length
        · rw [List.getElem?_set_self hl, List.getElem?_eq_getElem hl] <;> rfl
        · rw [List.getElem?_eq_none (by rw [List.length_set]; omega), List.getElem?_eq_none (by omega)] <;> rfl
      rw [if_pos List.mem_cons_self, this]
      split <;> cases S[j]? <;> rfl
    · rw [List.getElem?_set_ne q]
      have : (k ∈ j :: fp) ↔ k ∈ fp := by
        rw [List.mem_cons]
        exact ⟨fun z => z.elim (fun y => absurd y.symm q) id, .inr⟩
      simp only [this]
/-- the cells that are handed over -/
theorem extract : ∀ {fp : List Nat} {S : Store} {C : Cells}, SR ρ S C → fp.Nodup → (∀ k ∈ fp, k < S.length) → ∃ Ci R, C.Perm (Ci ++ R) ∧ SRL ρ (asOf ρ fp) (subS S fp) Ci ∧ SR ρ (rest S fp) R
  | [], S, C, s, _, _ => ⟨[], C, List.Perm.refl _, .nil, s⟩
  | k :: fp, S, C, s, nd, hl => by
    obtain ⟨hk, nd'⟩ := List.nodup_cons.1 nd
    have hkl := hl k List.mem_cons_self
    have eS : S[k]? = some (S.getD k .gone) := by rw [List.getD_eq_getElem?_getD, List.getElem?_eq_getElem hkl] <;> rfl
    have hr : ρ[k]? = some (ρ.getD k 0) := by
      have : k < ρ.length := by rw [s.len]; exact hkl
      rw [List.getD_eq_getElem?_getD, List.getElem?_eq_getElem this] <;> rfl
    have sub : subS (S.set k .gone) fp = subS S fp := by
      unfold subS
      refine List.map_congr_left fun j hj => ?_
      have : k ≠ j := fun q => hk (by subst q; exact hj)
      rw [List.getD_eq_getElem?_getD, List.getElem?_set_ne this, ← List.getD_eq_getElem?_getD]
    have hl' : ∀ j ∈ fp, j < (S.set k .gone).length := fun j m => by rw [List.length_set]; exact hl j (List.mem_cons_of_mem _ m)
    by_cases hg : S.getD k .gone = .gone
    · have e1 : S.set k .gone = S := by
        apply List.ext_getElem?
        intro i
        by_cases q : k = i
        · subst q; rw [List.getElem?_set_self hkl, eS, hg]
        · rw [List.getElem?_set_ne q]
      obtain ⟨Ci, R, h1, h2, h3⟩ := extract (fp := fp) s nd' (fun j m => hl j (List.mem_cons_of_mem _ m))
      refine ⟨Ci, R, h1, ?_, by rw [rest, e1]; exact h3⟩
      show SRL ρ (ρ.getD k 0 :: asOf ρ fp) (S.getD k .gone :: subS S fp) Ci
      rw [hg]
      exact .gone h2
    · obtain ⟨a, c, R1, q1, q2, q3, _, q5⟩ := s.get eS hg
      obtain ⟨Ci, R, h1, h2, h3⟩ := extract (fp := fp) q5 nd' hl'
      rw [hr] at q1
      cases q1
      refine ⟨(ρ.getD k 0, c) :: Ci, R, q3.trans (List.Perm.cons _ h1), ?_, h3⟩
      rw [sub] at h2
      exact .cons q2 h2
theorem put_back : ∀ {fp : List Nat} {cs T : Store} {R Co : Cells}, SR ρ T R → fp.Nodup → (∀ k ∈ fp, T[k]? = some .gone) → SRL ρ (asOf ρ fp) cs Co → SR ρ (wr T fp cs) (Co ++ R)
  | [], cs, T, R, Co, s, _, _, h => by
    cases h
    simp only [wr]
    exact s
  | k :: fp, cs, T, R, Co, s, nd, hg, h => by
    obtain ⟨hk, nd'⟩ := List.nodup_cons.1 nd
    have hgk := hg k List.mem_cons_self
    have hkl := (List.getElem?_eq_some_iff.1 hgk).1
    have hr : ρ[k]? = some (ρ.getD k 0) := by
      have : k < ρ.length := by rw [s.len]; exact hkl
      rw [List.getD_eq_getElem?_getD, List.getElem?_eq_getElem this] <;> rfl
    have hg' : ∀ m, ∀ j ∈ fp, (T.set k m)[j]? = some .gone := fun m j hj => by
      rw [List.getElem?_set_ne (fun q => hk (by subst q; exact hj))]
      exact hg j (List.mem_cons_of_mem _ hj)
    have h' : SRL ρ (ρ.getD k 0 :: asOf ρ fp) cs Co := h
    cases h' with
    | @cons _ m c _ cs' Co' q t =>
      have s2 := s.put q hgk hr
      have := put_back (fp := fp) s2 nd' (hg' m) t
      refine SR.perm this ?_
      exact (List.perm_middle (a := (ρ.getD k 0, c)) (l₁ := Co') (l₂ := R)).symm
    | @gone _ _ cs' _ t =>
      have e1 : T.set k .gone = T := by
        apply List.ext_getElem?
        intro i
        by_cases q : k = i
        · subst q; rw [List.getElem?_set_self hkl, hgk]
        · rw [List.getElem?_set_ne q]
      simp only [wr]
      rw [e1]
      exact put_back (fp := fp) s nd' (fun j hj => hg j (List.mem_cons_of_mem _ hj)) t

theorem ex_vr (h : backV fp x = some y) : ∃ d, VR (asOf ρ fp) x d := by
  cases x with
  | p d => exact ⟨d, rfl⟩
  | r k =>
    simp only [backV] at h
    split at h
    · rename_i j ej
      exact ⟨_, _, as_get ej, rfl⟩
    · cases h
theorem ex_frs {fs gs : List (Str × Val)} (h : mapFs (backV fp) fs = some gs) : ∃ ds, FR (asOf ρ fp) fs ds := by
  induction fs generalizing gs with
  | nil => exact ⟨[], .nil⟩
  | cons x fs ih =>
    obtain ⟨n, x⟩ := x
    simp only [mapFs] at h
    split at h
    · rename_i y e1
      split at h
      · rename_i ys e2
        obtain ⟨d, h1⟩ := ex_vr (ρ := ρ) e1
        obtain ⟨ds, h2⟩ := ih e2
        exact ⟨_, .cons h1 h2⟩
      · cases h
    · cases h
theorem ex_cr {m' : MCell} (h : mapC (backV fp) m = some m') (hg : m ≠ .gone) : ∃ c, CR (asOf ρ fp) m c := by
  cases m with
  | lst ds => exact ⟨_, rfl⟩
  | dK ds => exact ⟨_, rfl⟩
  | xd ds => exact ⟨_, rfl⟩
  | gone => exact absurd rfl hg
  | ins n fs =>
    simp only [mapC] at h
    split at h
    · rename_i gs e
      obtain ⟨ds, h1⟩ := ex_frs (ρ := ρ) e
      exact ⟨_, ds, rfl, h1⟩
    · cases h
theorem ex_srl : ∀ {as : List Addr} {S cs : Store}, as.length = S.length → mapCs (backV fp) S = some cs → ∃ L, SRL (asOf ρ fp) as S L
  | [], [], _, _, _ => ⟨[], .nil⟩
  | [], _ :: _, _, h, _ => by simp at h
  | _ :: _, [], _, h, _ => by simp at h
  | a :: as, m :: S, cs, h, e => by
    simp only [mapCs] at e
    split at e
    · rename_i d e1
      split at e
      · rename_i ds e2
        obtain ⟨L, h1⟩ := ex_srl (as := as) (S := S) (by simpa using h) e2
        by_cases q : m = .gone
        · subst q; exact ⟨L, .gone h1⟩
        · obtain ⟨c, h2⟩ := ex_cr (ρ := ρ) e1 q
          exact ⟨_, .cons h2 h1⟩
      · cases e
    · cases e
theorem ex_sr {ρ : List Addr} {S' cs : Store} (h : backS fp S' = some cs) : ∃ L, SRL (asOf ρ fp) (asOf ρ fp) S' L ∧ mapCs (backV fp) S' = some cs := by
  unfold backS at h
  split at h
  · rename_i q
    obtain ⟨L, h1⟩ := ex_srl (ρ := ρ) (as := asOf ρ fp) (by unfold asOf; rw [List.length_map]; exact (of_decide_eq_true q).symm) h
    exact ⟨L, h1, h⟩
  · cases h

/-- what a promise used at ds, C gives -/
def UOk (K : PySem.W.Frag) (sp : Sp) (ds : List Dat) (C : Cells) (ρ : List Addr) : XR → Prop
  | .v x S' => ∃ d C', VR ρ x d ∧ SR ρ S' C' ∧ ∀ vs H F Q E, Le F H → CSat K C H F → Reps K F ds vs → (∀ v H' F', Post C F H C' F' H' → Le F' H' → CSat K C' H' F' → Rep K F' d v → Q v H') → sp vs H Q E
  | .n m S' => ∃ c C', CR ρ m c ∧ SR ρ S' C' ∧ ∀ vs H F Q E, Le F H → CSat K C H F → Reps K F ds vs → (∀ a H' F', Post C F H ((a, c) :: C') F' H' → Le F' H' → CSat K ((a, c) :: C') H' F' → H a = none → Q (.ref a) H') → sp vs H Q E
  | .ex e S' => ∃ C', SR ρ S' C' ∧ ∀ vs H F Q (E : XK), Le F H → CSat K C H F → Reps K F ds vs → (∀ d C'' H' F', XSat (frH H) e C' d C'' → Post C F H C'' F' H' → Le F' H' → CSat K C'' H' F' → E (.ref (clOf K e.cls)) d H') → sp vs H Q E
  | .bad => True
theorem callAt_ok {f : DM} {xs : List Val} {ds : List Dat} (v : VRs ρ xs ds) (s : SR ρ S C) : UOk K (spF K (MirF f)) ds C ρ (callAt f xs S fp) := by
  unfold callAt
  split
  · rename_i hfp
    obtain ⟨nd, hl⟩ := fpOk_nd hfp
    split
    · rename_i ys T e1 e2
      obtain ⟨Ci, R, hp, h1, h2⟩ := extract s nd hl
      have hl' : ∀ k ∈ fp, k < ρ.length := fun k m => by rw [s.len]; exact hl k m
      have v' := map_vrs (ρ' := asOf ρ fp) (fun _ _ _ => ren_vr) v e1
      have s' : SR (asOf ρ fp) T Ci := ⟨Ci, map_srl (fun _ _ _ => ren_vr) h1 e2, List.Perm.refl _⟩
      have gone : ∀ k ∈ fp, (rest S fp)[k]? = some .gone := fun k m => by
        rw [rest_get, if_pos m, List.getElem?_eq_getElem (hl k m)] <;> rfl
      have bk : ∀ {S' cs : Store}, backS fp S' = some cs → ∃ Co, SR (asOf ρ fp) S' Co ∧ SR ρ (wr (rest S fp) fp cs) (Co ++ R) := fun {S' cs} e => by
        obtain ⟨L, q1, q2⟩ := ex_sr e
        exact ⟨L, ⟨L, q1, List.Perm.refl _⟩, put_back h2 nd gone (map_srl (fun _ _ _ => back_vr hl') q1 q2)⟩
      have use : ∀ o, DOk (asOf ρ fp) (f ys T) o → MirF f ⟨ds, Ci, o⟩ := fun o h => ⟨_, ys, T, v', s', h⟩
      revert use
      cases f ys T with
      | ret x S' =>
        intro use
        dsimp only [backD]
        split
        · rename_i y cs e3 e4
          obtain ⟨d, hd⟩ := ex_vr (ρ := ρ) e3
          obtain ⟨Co, g1, g2⟩ := bk e4
          exact ⟨d, _, back_vr hl' hd e3, g2, fun vs H F Q E l s r q => use_ret (use _ ⟨d, Co, hd, g1, rfl⟩) hp l s r q⟩
        · trivial
      | new c S' =>
        intro use
        dsimp only [backD]
        split
        · rename_i y cs e3 e4
          split
          · trivial
          · rename_i q
            obtain ⟨d, hd⟩ := ex_cr (ρ := ρ) e3 q
            obtain ⟨Co, g1, g2⟩ := bk e4
            exact ⟨d, _, map_cr (fun _ _ _ => back_vr hl') hd e3, g2, fun vs H F Q E l s r q => use_new (use _ ⟨d, Co, hd, g1, rfl⟩) hp l s r q⟩
        · trivial
      | exc e S' =>
        intro use
        dsimp only [backD]
        split
        · rename_i cs e4
          obtain ⟨Co, g1, g2⟩ := bk e4
          exact ⟨_, g2, fun vs H F Q E l s r q => use_exc (use _ ⟨Co, g1, rfl⟩) hp l s r q⟩
        · trivial
      | bad => exact fun _ => trivial
    · trivial
  · trivial
theorem callD_ok {f : DM} {xs : List Val} {ds : List Dat} (v : VRs ρ xs ds) (s : SR ρ S C) : UOk K (spF K (MirF f)) ds C ρ (callD f xs S) := callAt_ok v s

/-! ### calls as expressions -/
/-- behind h, the promise sp is used at values whose data are es -/
theorem use_fin {te : TE} {sp : Sp} {es : List Dat} {C1 : Cells} {r : XR} (hu : UOk K sp es C1 ρ r)
    (h3 : ∀ σ H F, Sat K G C σ H F → ∀ Q : VK, (∀ vs H' F', Post C F H C1 F' H' → Sat K G C1 σ H' F' → Reps K F' es vs → sp vs H' Q (WE W σ)) → te σ H Q) : XOk K W te ρ G C r := by
  cases r with
  | v x S' =>
    obtain ⟨d, C2, h1, h2, h4⟩ := hu
    exact ⟨d, C2, h1, h2, fun σ H F s Q q => h3 σ H F s Q fun vs H1 F1 p1 s1 r1 => h4 vs H1 F1 _ _ s1.le s1.cel r1 fun v H2 F2 p2 l2 c2 r2 => q v H2 F2 (p1.trans p2) ⟨l2, s1.gam.kx p2.kx, c2⟩ r2⟩
  | n m S' =>
    obtain ⟨d, C2, h1, h2, h4⟩ := hu
    exact ⟨d, C2, h1, h2, fun σ H F s Q q => h3 σ H F s Q fun vs H1 F1 p1 s1 r1 => h4 vs H1 F1 _ _ s1.le s1.cel r1 fun v H2 F2 p2 l2 c2 r2 => q v H2 F2 (p1.trans p2) ⟨l2, s1.gam.kx p2.kx, c2⟩ (p1.st _ r2)⟩
  | ex e S' =>
    obtain ⟨C2, h2, h4⟩ := hu
    exact ⟨C2, h2, fun σ H F s Q q => h3 σ H F s Q fun vs H1 F1 p1 s1 r1 => h4 vs H1 F1 _ _ s1.le s1.cel r1 fun v C3 H2 F2 z p2 l2 c2 => q v C3 H2 F2 (z.st p1) (p1.trans p2) ⟨l2, s1.gam.kx p2.kx, c2⟩⟩
  | bad => trivial
def AR.get (r : AR) (k : List Val → Store → XR) : XR := match r with
  | .a xs S => k xs S
  | .ex e S => .ex e S
  | .bad => .bad
theorem ax_get {te : TE} {ta : TA} {ms : List ME} {k : List Val → Store → XR} {Cs : Cells} (g : GR P ρ Γ G) (s : SR ρ S Cs) (h : AM K W P ta ms) (hx : ∀ e C', EvAX K W ta G Cs e C' → EvX K W te G C e C')
    (hk : ∀ xs S1 ds C1, VRs ρ xs ds → SR ρ S1 C1 → EvA K ta G Cs ds C1 → XOk K W te ρ G C (k xs S1)) : XOk K W te ρ G C ((argsM ms Γ S).get k) := by
  have h0 := h ρ Γ S G Cs g s
  revert h0
  cases argsM ms Γ S with
  | a xs S1 => exact fun ⟨d, C1, h1, h2, h3⟩ => hk xs S1 d C1 h1 h2 h3
  | ex e S1 => exact fun ⟨C', q1, q2⟩ => ⟨C', q1, hx e C' q2⟩
  | bad => exact fun _ => trivial
def callM (f : DM) (ms : List ME) : ME := fun Γ S => (argsM ms Γ S).get (callD f)
theorem em_call {f : DM} {ta : TA} {ms : List ME} (h : AM K W P ta ms) : EM K W P (tCallS (spF K (MirF f)) (WE W) ta) (callM f ms) := fun ρ Γ S G C g s => by
  refine ax_get (te := tCallS (spF K (MirF f)) (WE W) ta) g s h (fun e C' h σ H F s Q q => h σ H F s _ q) fun xs S1 ds C1 v1 s1 e1 => ?_
  exact use_fin (callD_ok v1 s1) fun σ H F s Q q => e1 σ H F s _ q

/-- the receiver is an instance of the class cn without an attribute of the name m -/
def hasNo (m : Str) : List (Str × Val) → Bool
  | [] => true
  | (f, _) :: fs => !(m == f) && hasNo m fs
def hasNoD (m : Str) : List (Str × Dat) → Bool
  | [] => true
  | (f, _) :: fs => !(m == f) && hasNoD m fs
def recv (cn m : Str) (S : Store) : Val → Bool
  | .p (.ins c fs) => decide (c = cn) && hasNoD m fs
  | .r k => match S[k]? with
    | some (.ins c fs) => decide (c = cn) && hasNo m fs
    | _ => false
  | _ => false
def recvP (cn : Str) (S : Store) : Val → Bool
  | .p (.ins c _) => decide (c = cn)
  | .r k => match S[k]? with
    | some (.ins c _) => decide (c = cn)
    | _ => false
  | _ => false
theorem no_lookD {m : Str} : ∀ {fs : List (Str × Dat)}, hasNoD m fs = true → fs.lookup m = none
  | [], _ => rfl
  | (f, x) :: fs, h => by
    simp only [hasNoD, Bool.and_eq_true, Bool.not_eq_true'] at h
    rw [List.lookup_cons, h.1]
    exact no_lookD h.2
theorem no_look {m : Str} {gs : List (Str × Dat)} : ∀ {fs : List (Str × Val)}, FR ρ fs gs → hasNo m fs = true → gs.lookup m = none := by
  intro fs h
  induction h with
  | nil => exact fun _ => rfl
  | cons h t ih =>
    intro e
    simp only [hasNo, Bool.and_eq_true, Bool.not_eq_true'] at e
    rw [List.lookup_cons, e.1]
    exact ih e.2
theorem repF_lookup {F : Hp} {m : Str} : ∀ {fs : List (Str × Dat)} {vs : List (Str × V)}, RepF K F fs vs → fs.lookup m = none → vs.lookup m = none
  | [], vs, h, _ => by
    rw [repF_nil.1 h]
    rfl
  | (k, d) :: fs, vs, h, e => by
    obtain ⟨v, r, rfl, h1, h2⟩ := repF_cons.1 h
    rw [List.lookup_cons] at e ⊢
    split at e
    · cases e
    · exact repF_lookup h2 e
theorem repF_get {F : Hp} {m : Str} {d : Dat} : ∀ {fs : List (Str × Dat)} {vs : List (Str × V)}, RepF K F fs vs → fs.lookup m = some d → ∃ v, vs.lookup m = some v ∧ Rep K F d v
  | [], vs, h, e => by cases e
  | (k, e') :: fs, vs, h, e => by
    obtain ⟨v, r, rfl, h1, h2⟩ := repF_cons.1 h
    rw [List.lookup_cons] at e ⊢
    split at e
    · cases e
      exact ⟨v, rfl, h1⟩
    · exact repF_get h2 e
theorem recv_at {cn m : Str} {F H : Hp} {v : V} (h : recv cn m S x = true) (r : VR ρ x d) (s : SR ρ S C) (l : Le F H) (cs : CSat K C H F) (q : Rep K F d v) : ∃ a dx fs, v = .ref a ∧ H a = some (.ins (clOf K cn) dx fs) ∧ fs.lookup m = none := by
  cases x with
  | p e =>
    obtain rfl : d = e := r
    cases d with
    | ins c fs =>
      simp only [recv, Bool.and_eq_true, decide_eq_true_eq] at h
      obtain ⟨rfl, h⟩ := h
      obtain ⟨a, dx, vs, rfl, h1, h2⟩ := rep_ins q
      exact ⟨a, dx, vs, rfl, l.ins h1, repF_lookup h2 (no_lookD h)⟩
    | _ => cases h
  | r k =>
    obtain ⟨a, ha, rfl⟩ := r
    simp only [recv] at h
    split at h
    · rename_i c fs e
      simp only [Bool.and_eq_true, decide_eq_true_eq] at h
      obtain ⟨rfl, h⟩ := h
      obtain ⟨a', c', R, q1, ⟨gs, rfl, q2⟩, q3, _⟩ := s.get e (by intro z; cases z)
      rw [ha] at q1
      cases q1
      obtain ⟨_, o, h1, dx, vs, rfl, h2, _⟩ := cs.at_ _ _ (q3.symm.subset List.mem_cons_self)
      exact ⟨a, dx, vs, rep_v.1 q, h1, repF_lookup h2 (no_look q2 h)⟩
    · cases h
theorem recvP_at {cn : Str} {F H : Hp} {v : V} (h : recvP cn S x = true) (r : VR ρ x d) (s : SR ρ S C) (l : Le F H) (cs : CSat K C H F) (q : Rep K F d v) : ∃ a dx fs, v = .ref a ∧ H a = some (.ins (clOf K cn) dx fs) := by
  cases x with
  | p e =>
    obtain rfl : d = e := r
    cases d with
    | ins c fs =>
      simp only [recvP, decide_eq_true_eq] at h
      obtain rfl := h
      obtain ⟨a, dx, vs, rfl, h1, h2⟩ := rep_ins q
      exact ⟨a, dx, vs, rfl, l.ins h1⟩
    | _ => cases h
  | r k =>
    obtain ⟨a, ha, rfl⟩ := r
    simp only [recvP] at h
    split at h
    · rename_i c fs e
      simp only [decide_eq_true_eq] at h
      obtain rfl := h
      obtain ⟨a', c', R, q1, ⟨gs, rfl, q2⟩, q3, _⟩ := s.get e (by intro z; cases z)
      rw [ha] at q1
      cases q1
      obtain ⟨_, o, h1, dx, vs, rfl, h2, _⟩ := cs.at_ _ _ (q3.symm.subset List.mem_cons_self)
      exact ⟨a, dx, vs, rep_v.1 q, h1⟩
    · cases h
def methM (cn m : Str) (f : DM) (mo : ME) (ms : List ME) : ME := fun Γ S => (mo Γ S).get fun x S1 => match recv cn m S1 x with
  | true => (argsM ms Γ S1).get fun xs S2 => callD f (x :: xs) S2
  | false => .bad
def XR.noX : XR → XR
  | .ex _ _ => .bad
  | r => r
def propM (cn : Str) (f : DM) (mo : ME) : ME := fun Γ S => (mo Γ S).get fun x S1 => match recvP cn S1 x with
  | true => (callD f [x] S1).noX
  | false => .bad
theorem em_meth {cn m : Str} {Cc : Addr} {f : DM} {to : TE} {mo : ME} {ta : TA} {ms : List ME} (hc : clOf K cn = Cc) (ho : EM K W P to mo) (h : AM K W P ta ms) : EM K W P (tMethS Cc m (spF K (MirF f)) W to ta) (methM cn m f mo ms) := fun ρ Γ S G C g s => by
  subst hc
  refine ex_get (te := tMethS (clOf K cn) m (spF K (MirF f)) W to ta) g s ho (fun e C' h σ H F s Q q => h σ H F s _ q) fun x S1 d1 C1 v1 s1 e1 => ?_
  split
  · rename_i hr
    refine ax_get (te := tMethS (clOf K cn) m (spF K (MirF f)) W to ta) g s1 h (fun e C' h σ H F s Q q => e1 σ H F s _ fun v H1 F1 p1 s2 r1 => ?_) fun xs S2 ds C2 v2 s2 e2 => ?_
    · obtain ⟨a, dx, fs, rfl, h1, h2⟩ := recv_at hr v1 s1 s2.le s2.cel r1
      exact ⟨a, dx, fs, rfl, h1, h2, h σ H1 F1 s2 _ fun d C3 H2 F2 z p2 s3 => q d C3 H2 F2 (z.st p1) (p1.trans p2) s3⟩
    · refine use_fin (C1 := C2) (callD_ok (.cons v1 v2) s2) fun σ H F s Q q => e1 σ H F s _ fun v H1 F1 p1 s2 r1 => ?_
      obtain ⟨a, dx, fs, rfl, h1, h2⟩ := recv_at hr v1 s1 s2.le s2.cel r1
      exact ⟨a, dx, fs, rfl, h1, h2, e2 σ H1 F1 s2 _ fun vs H2 F2 p2 s3 r2 => q (.ref a :: vs) H2 F2 (p1.trans p2) s3 (reps_cons.2 ⟨_, vs, rfl, r1.kx p2.kx, r2⟩)⟩
  · trivial
theorem use_finN {te : TE} {sp : Sp} {es : List Dat} {C1 : Cells} {r : XR} {E : XK} (hu : UOk K sp es C1 ρ r)
    (h3 : ∀ σ H F, Sat K G C σ H F → ∀ Q : VK, (∀ vs H' F', Post C F H C1 F' H' → Sat K G C1 σ H' F' → Reps K F' es vs → sp vs H' Q E) → te σ H Q) : XOk K W te ρ G C r.noX := by
  cases r with
  | v x S' =>
    obtain ⟨d, C2, h1, h2, h4⟩ := hu
    exact ⟨d, C2, h1, h2, fun σ H F s Q q => h3 σ H F s Q fun vs H1 F1 p1 s1 r1 => h4 vs H1 F1 _ _ s1.le s1.cel r1 fun v H2 F2 p2 l2 c2 r2 => q v H2 F2 (p1.trans p2) ⟨l2, s1.gam.kx p2.kx, c2⟩ r2⟩
  | n m S' =>
    obtain ⟨d, C2, h1, h2, h4⟩ := hu
    exact ⟨d, C2, h1, h2, fun σ H F s Q q => h3 σ H F s Q fun vs H1 F1 p1 s1 r1 => h4 vs H1 F1 _ _ s1.le s1.cel r1 fun v H2 F2 p2 l2 c2 r2 => q v H2 F2 (p1.trans p2) ⟨l2, s1.gam.kx p2.kx, c2⟩ (p1.st _ r2)⟩
  | ex e S' => trivial
  | bad => trivial
theorem em_prop {cn : Str} {Cc : Addr} {f : DM} {to : TE} {mo : ME} {E : XK} (hc : clOf K cn = Cc) (ho : EM K W P to mo) : EM K W P (tProp Cc (spF K (MirF f)) [] E to) (propM cn f mo) := fun ρ Γ S G C g s => by
  subst hc
  refine ex_get (te := tProp (clOf K cn) (spF K (MirF f)) [] E to) g s ho (fun e C' h σ H F s Q q => h σ H F s _ q) fun x S1 d1 C1 v1 s1 e1 => ?_
  split
  · rename_i hr
    refine use_finN (E := E) (callD_ok (.cons v1 .nil) s1) fun σ H F s Q q => e1 σ H F s _ fun v H1 F1 p1 s2 r1 => ?_
    obtain ⟨a, dx, fs, rfl, h1⟩ := recvP_at hr v1 s1 s2.le s2.cel r1
    exact ⟨a, dx, fs, rfl, h1, q [.ref a] H1 F1 p1 s2 (reps_cons.2 ⟨_, [], rfl, r1, reps_nil.2 rfl⟩)⟩
  · trivial

/-! ### a new instance -/
theorem en_make {cn : Str} {φ : Fam} {t : TA} {ds : List Dat} {C1 Ci Co R : Cells} (hc : hasCls K cn) (ha : EvA K t G C ds C1) (hφ : ∀ a, φ ⟨dR a :: ds, (a, .ins cn []) :: Ci, .ret dN ((a, c) :: Co)⟩) (hC : C1.Perm (Ci ++ R)) :
    EvN K (tMakeS (clOf K cn) (spF K φ) W t) G C c (Co ++ R) := fun σ H F s Q q =>
  ha σ H F s _ fun vs H1 F1 p1 s1 r1 a dx h1 h2 h3 => by
    obtain ⟨p2, l2, c2⟩ := make_pre hc s1.le s1.cel h1 h2 h3
    refine use_ret (hφ a) (C := (a, .ins cn []) :: C1) (R := R) (List.Perm.cons _ hC) l2 c2 (reps_cons.2 ⟨_, vs, rfl, rep_v.2 rfl, r1⟩) fun v H3 F3 p3 l3 c3 r3 => ⟨rep_v.1 r3, ?_⟩
    exact q a H3 F3 ((p1.trans p2).trans p3) ⟨l3, s1.gam.kx p3.kx, c3⟩ (p1.st _ h1)
theorem ex_make {cn : Str} {φ : Fam} {t : TA} {ds : List Dat} {C1 Ci Co R : Cells} {e : Exn} (hc : hasCls K cn) (ha : EvA K t G C ds C1) (hφ : ∀ a, ∃ c', φ ⟨dR a :: ds, (a, .ins cn []) :: Ci, .exc e ((a, c') :: Co)⟩) (hC : C1.Perm (Ci ++ R)) :
    EvX K W (tMakeS (clOf K cn) (spF K φ) W t) G C e (Co ++ R) := fun σ H F s Q q =>
  ha σ H F s _ fun vs H1 F1 p1 s1 r1 a dx h1 h2 h3 => by
    obtain ⟨p2, l2, c2⟩ := make_pre hc s1.le s1.cel h1 h2 h3
    obtain ⟨c', h⟩ := hφ a
    refine use_exc h (C := (a, .ins cn []) :: C1) (R := R) (List.Perm.cons _ hC) l2 c2 (reps_cons.2 ⟨_, vs, rfl, rep_v.2 rfl, r1⟩) fun d C'' H3 F3 z p3 l3 c3 => ?_
    obtain ⟨C4, z4, hs4⟩ := z.sub (C0 := Co ++ R) ⟨[(a, c')], (List.perm_append_comm (l₁ := [(a, c')]) (l₂ := Co ++ R))⟩
    exact q d C4 H3 F3 (z4.st (p1.trans p2)) (((p1.trans p2).trans p3).subp hs4) ⟨l3, s1.gam.kx p3.kx, c3.subp hs4⟩
def makeAt (cn : Str) (f : DM) (xs : List Val) (S : Store) (fp : List Nat) : XR := match fpOk S.length fp with
  | true => match mapVs (renV fp) xs, mapCs (renV fp) (subS S fp) with
    | some ys, some T => match f (.r fp.length :: ys) (T ++ [.ins cn []]) with
      | .ret (.p (.v .non)) S' => match S'.drop fp.length, backS fp (S'.take fp.length) with
        | [c], some cs => match c with
          | .gone => .bad
          | _ => match mapC (backV fp) c with
            | some c' => .n c' (wr (rest S fp) fp cs)
            | none => .bad
        | _, _ => .bad
      | .exc e S' => match S'.drop fp.length, backS fp (S'.take fp.length) with
        | [c], some cs => match c with
          | .gone => .bad
          | _ => match mapC (backV fp) c with
            | some _ => .ex e (wr (rest S fp) fp cs)
            | none => .bad
        | _, _ => .bad
      | _ => .bad
    | _, _ => .bad
  | false => .bad
def makeD (cn : Str) (f : DM) (xs : List Val) (S : Store) : XR := makeAt cn f xs S (clos S 64 (refsVs xs) [])
theorem asOf_len {fp : List Nat} : (asOf ρ fp).length = fp.length := by unfold asOf; rw [List.length_map]
theorem vrs_mono {ρ ρ' : List Addr} (h : ρ <+: ρ') {xs : List Val} {ds : List Dat} (r : VRs ρ xs ds) : VRs ρ' xs ds := r.mono h
theorem make_ok {cn : Str} {f : DM} {t : TA} {xs : List Val} {ds : List Dat} {C1 : Cells} (hc : hasCls K cn) (ha : EvA K t G C ds C1) (v : VRs ρ xs ds) (s : SR ρ S C1) : XOk K W (tMakeS (clOf K cn) (spF K (MirF f)) W t) ρ G C (makeAt cn f xs S fp) := by
  unfold makeAt
  split
  · rename_i hfp
    obtain ⟨nd, hl⟩ := fpOk_nd hfp
    split
    · rename_i ys T e1 e2
      obtain ⟨Ci, R, hp, h1, h2⟩ := extract s nd hl
      have hl' : ∀ k ∈ fp, k < ρ.length := fun k m => by rw [s.len]; exact hl k m
      have v' := map_vrs (ρ' := asOf ρ fp) (fun _ _ _ => ren_vr) v e1
      have s' : SR (asOf ρ fp) T Ci := ⟨Ci, map_srl (fun _ _ _ => ren_vr) h1 e2, List.Perm.refl _⟩
      have gone : ∀ k ∈ fp, (rest S fp)[k]? = some .gone := fun k m => by
        rw [rest_get, if_pos m, List.getElem?_eq_getElem (hl k m)] <;> rfl
      have bk : ∀ {S' cs : Store}, backS fp S' = some cs → ∃ Co, SR (asOf ρ fp) S' Co ∧ SR ρ (wr (rest S fp) fp cs) (Co ++ R) := fun {S' cs} e => by
        obtain ⟨L, q1, q2⟩ := ex_sr (ρ := ρ) e
        exact ⟨L, ⟨L, q1, List.Perm.refl _⟩, put_back h2 nd gone (map_srl (fun _ _ _ => back_vr hl') q1 q2)⟩
      have pre : ∀ a, asOf ρ fp <+: asOf ρ fp ++ [a] := fun a => List.prefix_append _ _
      have use : ∀ a o, DOk (asOf ρ fp ++ [a]) (f (.r fp.length :: ys) (T ++ [.ins cn []])) o → MirF f ⟨dR a :: ds, (a, .ins cn []) :: Ci, o⟩ := fun a o h =>
        ⟨asOf ρ fp ++ [a], .r fp.length :: ys, T ++ [.ins cn []], .cons (show VR (asOf ρ fp ++ [a]) (.r fp.length) (dR a) from ⟨a, by rw [List.getElem?_append_right (by rw [asOf_len]; exact Nat.le_refl _), asOf_len, Nat.sub_self] <;> rfl, rfl⟩) (v'.mono (pre a)), s'.alloc (show CR (asOf ρ fp) (.ins cn []) (.ins cn []) from ⟨[], rfl, .nil⟩), h⟩
      have spl : ∀ {S' : Store} {c : MCell}, S'.drop fp.length = [c] → S' = S'.take fp.length ++ [c] := fun {S' c} e => by rw [← e, List.take_append_drop]
      revert use
      split
      · rename_i S' hf
        intro use
        split
        · rename_i c cs ec e4
          split
          · trivial
          · rename_i hg
            split
            · rename_i c' e3
              obtain ⟨d, hd⟩ := ex_cr (ρ := ρ) e3 hg
              obtain ⟨Co, g1, g2⟩ := bk e4
              refine ⟨d, _, map_cr (fun _ _ _ => back_vr hl') hd e3, g2, en_make hc ha (fun a => use a _ ?_) hp⟩
              rw [hf]
              have := g1.alloc (a := a) hd
              rw [← spl ec] at this
              exact ⟨_, _, rfl, this, rfl⟩
            · trivial
        · trivial
      · rename_i e S' hf
        intro use
        split
        · rename_i c cs ec e4
          split
          · trivial
          · rename_i hg
            split
            · rename_i c' e3
              obtain ⟨d, hd⟩ := ex_cr (ρ := ρ) e3 hg
              obtain ⟨Co, g1, g2⟩ := bk e4
              refine ⟨_, g2, ex_make hc ha (fun a => ⟨d, use a _ ?_⟩) hp⟩
              rw [hf]
              have := g1.alloc (a := a) hd
              rw [← spl ec] at this
              exact ⟨_, this, rfl⟩
            · trivial
        · trivial
      · exact fun _ => trivial
    · trivial
  · trivial
def makeM (cn : Str) (f : DM) (ms : List ME) : ME := fun Γ S => (argsM ms Γ S).get (makeD cn f)
theorem em_make {cn : Str} {Cc : Addr} {f : DM} {ta : TA} {ms : List ME} (hg : PySem.W.nsIn K mainGlobals cn = some (some (.ref Cc))) (h : AM K W P ta ms) : EM K W P (tMakeS Cc (spF K (MirF f)) W ta) (makeM cn f ms) := fun ρ Γ S G C g s => by
  obtain rfl := clOf_of hg
  refine ax_get (te := tMakeS (clOf K cn) (spF K (MirF f)) W ta) g s h (fun e C' h σ H F s Q q => h σ H F s _ q) fun xs S1 ds C1 v1 s1 e1 => ?_
  exact make_ok ⟨_, hg⟩ e1 v1 s1
end
end Mr
end

section
set_option maxRecDepth 100000
set_option maxHeartbeats 4000000
/-! Mr3: mirrors of statements, loops, comprehensions; the rule for a def. -/
namespace Mr
open PySem L2 Dm

/-! ### an expression's end, by kinds of use -/
inductive PX where
  | d (d : Dat) (S : Store)
  | ex (e : Exn) (S : Store)
  | bad
/-- as data that nobody changes -/
def XR.pure : XR → PX
  | .v (.p d) S => .d d S
  | .v (.r i) S => match S[i]? with
    | some m => match frz m with
      | some d => .d d (S.set i .gone)
      | none => .bad
    | none => .bad
  | .n c S => match frz c with
    | some d => .d d S
    | none => .bad
  | .ex e S => .ex e S
  | .bad => .bad
inductive GX where
  | v (x : Val) (S : Store)
  | ex (e : Exn) (S : Store)
  | bad
/-- as a value; what is new is frozen -/
def XR.val : XR → GX
  | .v x S => .v x S
  | .n c S => match frz c with
    | some d => .v (.p d) S
    | none => .bad
  | .ex e S => .ex e S
  | .bad => .bad
def POkx (K : PySem.W.Frag) (W : WX) (te : TE) (ρ : List Addr) (G : Gam) (C : Cells) : PX → Prop
  | .d d S' => ∃ C', SR ρ S' C' ∧ Ev K te G C d C'
  | .ex e S' => ∃ C', SR ρ S' C' ∧ EvX K W te G C e C'
  | .bad => True
def GOkx (K : PySem.W.Frag) (W : WX) (te : TE) (ρ : List Addr) (G : Gam) (C : Cells) : GX → Prop
  | .v x S' => ∃ d C', VR ρ x d ∧ SR ρ S' C' ∧ Ev K te G C d C'
  | .ex e S' => ∃ C', SR ρ S' C' ∧ EvX K W te G C e C'
  | .bad => True
section
variable {K : PySem.W.Frag} {W : WX} {P : List (Nat × Addr)} {ρ ρ' : List Addr} {Γ Γ' : MEnv} {S S1 : Store} {G : Gam} {C C1 C2 : Cells} {te ta tb : TE} {tt tu : TT} {m ma mb : ME} {c : Cell} {mc : MCell} {d : Dat} {x : Val} {i : Nat}
theorem pure_ok {r : XR} (h : XOk K W te ρ G C r) : POkx K W te ρ G C r.pure := by
  cases r with
  | v x S1 =>
    cases x with
    | p d =>
      obtain ⟨d', C1, h1, h2, h3⟩ := h
      obtain rfl : d' = d := h1
      exact ⟨C1, h2, h3⟩
    | r i =>
      obtain ⟨d', C1, ⟨a, ha, rfl⟩, h2, h3⟩ := h
      unfold XR.pure
      dsimp only
      split
      · rename_i m e
        split
        · rename_i d hf
          obtain ⟨a', c, R, q1, q2, q3, _, q5⟩ := h2.get e (frz_ng hf)
          rw [ha] at q1
          cases q1
          have := ev_frz h3 q3
          rw [frz_fz hf q2] at this
          exact ⟨R, q5, this⟩
        · trivial
      · trivial
  | n mc S1 =>
    unfold XR.pure
    dsimp only
    split
    · rename_i d hf
      obtain ⟨d', C1, h1, h2, h3⟩ := h.n_v hf
      obtain rfl : d' = d := h1
      exact ⟨C1, h2, h3⟩
    · trivial
  | ex e S1 => exact h
  | bad => trivial
theorem val_ok {r : XR} (h : XOk K W te ρ G C r) : GOkx K W te ρ G C r.val := by
  cases r with
  | v x S1 => exact h
  | n mc S1 =>
    unfold XR.val
    dsimp only
    split
    · rename_i d hf
      exact h.n_v hf
    · trivial
  | ex e S1 => exact h
  | bad => trivial

/-! ### arguments as data -/
inductive AP where
  | ok (ds : List Dat) (S : Store)
  | ex (e : Exn) (S : Store)
  | bad
def argsP : List ME → MEnv → Store → AP
  | [], _, S => .ok [] S
  | m :: ms, Γ, S => match (m Γ S).pure with
    | .d d S1 => match argsP ms Γ S1 with
      | .ok ds S2 => .ok (d :: ds) S2
      | r => r
    | .ex e S1 => .ex e S1
    | .bad => .bad
def APOk (K : PySem.W.Frag) (W : WX) (ta : TA) (ρ : List Addr) (G : Gam) (C : Cells) : AP → Prop
  | .ok ds S' => ∃ C', SR ρ S' C' ∧ EvA K ta G C ds C'
  | .ex e S' => ∃ C', SR ρ S' C' ∧ EvAX K W ta G C e C'
  | .bad => True
def AMP (K : PySem.W.Frag) (W : WX) (P : List (Nat × Addr)) (ta : TA) (ms : List ME) : Prop := ∀ ρ Γ S G C, GR P ρ Γ G → SR ρ S C → APOk K W ta ρ G C (argsP ms Γ S)
theorem pm_nil : AMP K W P tNil [] := fun ρ Γ S G C g s => ⟨C, s, ea_nil⟩
theorem pm_cons {tr : TA} {ms : List ME} (h : EM K W P te m) (ht : AMP K W P tr ms) : AMP K W P (tCons te tr) (m :: ms) := fun ρ Γ S G C g s => by
  have h0 := pure_ok (h ρ Γ S G C g s)
  simp only [argsP]
  revert h0
  cases (m Γ S).pure with
  | d d S1 =>
    intro ⟨C1, h2, h3⟩
    have h4 := ht ρ Γ S1 G C1 g h2
    dsimp only
    revert h4
    cases argsP ms Γ S1 with
    | ok ds S2 => exact fun ⟨C2, q2, q3⟩ => ⟨C2, q2, ea_cons h3 q3⟩
    | ex e S2 => exact fun ⟨C2, q1, q2⟩ => ⟨C2, q1, eax_tail h3 q2⟩
    | bad => exact fun _ => trivial
  | ex e S1 => exact fun ⟨C', q1, q2⟩ => ⟨C', q1, eax_head q2⟩
  | bad => exact fun _ => trivial
def lstM (ms : List ME) : ME := fun Γ S => match argsP ms Γ S with
  | .ok ds S1 => match decide (ds.length ≤ 100000) with
    | true => .n (.lst ds) S1
    | false => .bad
  | .ex e S1 => .ex e S1
  | .bad => .bad
def tupM (ms : List ME) : ME := fun Γ S => match argsP ms Γ S with
  | .ok ds S1 => match decide (ds.length ≤ 100000) with
    | true => .v (.p (.tup ds)) S1
    | false => .bad
  | .ex e S1 => .ex e S1
  | .bad => .bad
theorem ea_len {ta : TA} {ds : List Dat} {F : Hp} {vs : List V} (r : Reps K F ds vs) (h : decide (ds.length ≤ 100000) = true) : vs.length ≤ sizeLine := by
  rw [← reps_len r, sizeLine_eq]
  have := of_decide_eq_true h
  omega
theorem em_lst {ta : TA} {ms : List ME} (h : AMP K W P ta ms) : EM K W P (tLst ta) (lstM ms) := fun ρ Γ S G C g s => by
  have h0 := h ρ Γ S G C g s
  unfold lstM
  revert h0
  cases argsP ms Γ S with
  | ok ds S1 =>
    intro ⟨C1, h2, h3⟩
    dsimp only
    split
    · rename_i hl
      exact ⟨.lst ds, C1, rfl, h2, fun σ H F s Q q => h3 σ H F s _ fun vs H1 F1 p1 s1 r1 => ⟨ea_len (ta := ta) r1 hl, fun p hp => by
        obtain ⟨p2, l2, c2⟩ := post_new (c := .lst ds) (o := .lst vs) s1.le s1.cel hp ⟨vs, rfl, r1⟩
        exact q p _ F1 (p1.trans p2) ⟨l2, s1.gam, c2⟩ (p1.st _ hp)⟩⟩
    · trivial
  | ex e S1 => exact fun ⟨C', q1, q2⟩ => ⟨C', q1, fun σ H F s Q q => q2 σ H F s _ q⟩
  | bad => exact fun _ => trivial
theorem em_tup {ta : TA} {ms : List ME} (h : AMP K W P ta ms) : EM K W P (tTup ta) (tupM ms) := fun ρ Γ S G C g s => by
  have h0 := h ρ Γ S G C g s
  unfold tupM
  revert h0
  cases argsP ms Γ S with
  | ok ds S1 =>
    intro ⟨C1, h2, h3⟩
    dsimp only
    split
    · rename_i hl
      exact ⟨_, C1, rfl, h2, fun σ H F s Q q => h3 σ H F s _ fun vs H1 F1 p1 s1 r1 => ⟨ea_len (ta := ta) r1 hl, fun p hp => by
        obtain ⟨p2, l2, c2, k2⟩ := post_tup (xs := vs) s1.le s1.cel hp
        exact q _ _ _ (p1.trans p2) ⟨l2, s1.gam.kx k2, c2⟩ (rep_tup.2 ⟨p, vs, rfl, upd_same, r1.kx k2⟩)⟩⟩
    · trivial
  | ex e S1 => exact fun ⟨C', q1, q2⟩ => ⟨C', q1, fun σ H F s Q q => q2 σ H F s _ q⟩
  | bad => exact fun _ => trivial

/-! ### statements -/
inductive Rs where
  | nx (Γ : MEnv) (S : Store)
  | rt (x : Val) (S : Store)
  | rn (c : MCell) (S : Store)
  | bk (Γ : MEnv) (S : Store)
  | ct (Γ : MEnv) (S : Store)
  | ex (e : Exn) (Γ : MEnv) (S : Store)
  | bad
abbrev MS := MEnv → Store → Rs
def OKr (k0 : Nat) (ρ : List Addr) (I : List Addr) : Prop := k0 ≤ ρ.length ∧ ∀ k a, k0 ≤ k → ρ[k]? = some a → a ∉ I
def RsOk (P : List (Nat × Addr)) (k0 : Nat) (I : List Addr) (B : Bd) (ρ : List Addr) : Rs → Prop
  | .nx Γ S => ∀ ρ' G C, ρ <+: ρ' → OKr k0 ρ' I → GR P ρ' Γ G → SR ρ' S C → B.nx G C
  | .bk Γ S => ∀ ρ' G C, ρ <+: ρ' → OKr k0 ρ' I → GR P ρ' Γ G → SR ρ' S C → B.bk G C
  | .ct Γ S => ∀ ρ' G C, ρ <+: ρ' → OKr k0 ρ' I → GR P ρ' Γ G → SR ρ' S C → B.ct G C
  | .ex e Γ S => ∀ ρ' G C, ρ <+: ρ' → OKr k0 ρ' I → GR P ρ' Γ G → SR ρ' S C → B.xc e G C
  | .rt (.p d) S => ∀ ρ' C, ρ <+: ρ' → OKr k0 ρ' I → SR ρ' S C → B.rt d C
  | .rt (.r k) S => (k < k0 → ∀ ρ' a C, ρ <+: ρ' → OKr k0 ρ' I → ρ'[k]? = some a → SR ρ' S C → B.rt (dR a) C) ∧
      (k0 ≤ k → ∃ m, S[k]? = some m ∧ m ≠ .gone ∧ ∀ ρ' c R, ρ <+: ρ' → OKr k0 ρ' I → CR ρ' m c → SR ρ' (S.set k .gone) R → B.rn c R)
  | .rn m S => ∀ ρ' c C, ρ <+: ρ' → OKr k0 ρ' I → CR ρ' m c → SR ρ' S C → B.rn c C
  | .bad => False
theorem RsOk.mono {k0 : Nat} {I : List Addr} {B : Bd} {r : Rs} (p : ρ <+: ρ') (h : RsOk P k0 I B ρ r) : RsOk P k0 I B ρ' r := by
  cases r with
  | nx Γ S => exact fun ρ2 G C q => h ρ2 G C (p.trans q)
  | bk Γ S => exact fun ρ2 G C q => h ρ2 G C (p.trans q)
  | ct Γ S => exact fun ρ2 G C q => h ρ2 G C (p.trans q)
  | ex e Γ S => exact fun ρ2 G C q => h ρ2 G C (p.trans q)
  | rt x S =>
    cases x with
    | p d => exact fun ρ2 C q => h ρ2 C (p.trans q)
    | r k => exact ⟨fun hk ρ2 a C q => h.1 hk ρ2 a C (p.trans q), fun hk => let ⟨m, e, hg, f⟩ := h.2 hk; ⟨m, e, hg, fun ρ2 c R q => f ρ2 c R (p.trans q)⟩⟩
  | rn c S => exact fun ρ2 c C q => h ρ2 c C (p.trans q)
  | bad => exact h
def RM (K : PySem.W.Frag) (W : WX) (P : List (Nat × Addr)) (k0 : Nat) (t : TS) (m : MS) : Prop := ∀ ρ Γ S G C (e : Ent) B, GR P ρ Γ G → SR ρ S C → OKr k0 ρ e.I → RsOk P k0 e.I B ρ (m Γ S) → Run K W t e G C B
theorem preR (ρ : List Addr) : ρ <+: ρ := List.prefix_refl ρ
theorem GR.set (g : GR P ρ Γ G) (h : VR ρ x d) : GR P ρ (Γ.set i (some x)) (G.set i (some d)) := by
  refine ⟨g.px, by rw [List.length_set, List.length_set]; exact g.len, fun j y hj => ?_⟩
  by_cases q : i = j
  · subst q
    have hl : i < Γ.length := by
      have := (List.getElem?_eq_some_iff.mp hj).1
      rwa [List.length_set] at this
    rw [List.getElem?_set_self hl] at hj
    cases hj
    exact ⟨d, by rw [List.getElem?_set_self (by rw [← g.len]; exact hl)], h⟩
  · rw [List.getElem?_set_ne q] at hj
    obtain ⟨w, h1, h2⟩ := g.at_ j y hj
    exact ⟨w, by rw [List.getElem?_set_ne q]; exact h1, h2⟩
def wipeE (Γ : MEnv) : List Nat → MEnv
  | [] => Γ
  | v :: vs => (wipeE Γ vs).set v none
theorem GR.setN (g : GR P ρ Γ G) : GR P ρ (Γ.set i none) G := by
  refine ⟨g.px, by rw [List.length_set]; exact g.len, fun j y hj => ?_⟩
  by_cases q : i = j
  · subst q
    have hl : i < Γ.length := by
      have := (List.getElem?_eq_some_iff.mp hj).1
      rwa [List.length_set] at this
    rw [List.getElem?_set_self hl] at hj
    cases hj
  · rw [List.getElem?_set_ne q] at hj
    exact g.at_ j y hj
theorem GR.wipe (g : GR P ρ Γ G) : ∀ vs, GR P ρ (wipeE Γ vs) G
  | [] => g
  | v :: vs => (g.wipe vs).setN

section
variable {k0 : Nat} {t u : TS} {a b : MS} {tg : TG}
def nilM : MS := fun Γ S => .nx Γ S
def seqM (a b : MS) : MS := fun Γ S => match a Γ S with
  | .nx Γ1 S1 => b Γ1 S1
  | r => r
theorem rm_nil : RM K W P k0 tNext nilM := fun ρ Γ S G C e B g s o h => r_next (h ρ G C (preR ρ) o g s)
theorem rm_never {m : MS} : RM K W P k0 tNever fun _ _ => .bad := fun ρ Γ S G C e B g s o h => h.elim
theorem rm_seq (ha : RM K W P k0 t a) (hb : RM K W P k0 u b) : RM K W P k0 (tSeq t u) (seqM a b) := fun ρ Γ S G C e B g s o h => by
  refine r_seq (ha ρ Γ S G C e _ g s o ?_)
  unfold seqM at h
  revert h
  cases a Γ S with
  | nx Γ1 S1 => exact fun h ρ' G' C' p o' g' s' => hb ρ' Γ1 S1 G' C' e B g' s' o' (h.mono p)
  | rt x S2 => cases x <;> exact id
  | _ => exact id
def brkM : MS := fun Γ S => .bk Γ S
def cntM : MS := fun Γ S => .ct Γ S
theorem rm_brk : RM K W P k0 tBreak brkM := fun ρ Γ S G C e B g s o h => r_brk (h ρ G C (preR ρ) o g s)
theorem rm_cnt : RM K W P k0 tCont cntM := fun ρ Γ S G C e B g s o h => r_cont (h ρ G C (preR ρ) o g s)
/-- x = e: what is new is frozen -/
def asgM (i : Nat) (m : ME) : MS := fun Γ S => match (m Γ S).val with
  | .v x S1 => .nx (Γ.set i (some x)) S1
  | .ex e S1 => .ex e Γ S1
  | .bad => .bad
theorem rm_asg (h : EM K W P te m) : RM K W P k0 (tAsg te (gName i)) (asgM i m) := fun ρ Γ S G C e B g s o hr => by
  have h0 := val_ok (h ρ Γ S G C g s)
  unfold asgM at hr
  revert h0 hr
  cases (m Γ S).val with
  | v x S1 => exact fun hr ⟨d, C1, h1, h2, h3⟩ => r_asg h3 (hr ρ _ _ (preR ρ) o (g.set h1) h2)
  | ex e' S1 => exact fun hr ⟨C1, h2, h3⟩ => r_asgX h3 (hr ρ _ _ (preR ρ) o g h2)
  | bad => exact fun hr => hr.elim
/-- x = e: what is new is a cell -/
def asgC (i : Nat) (m : ME) : MS := fun Γ S => match m Γ S with
  | .v x S1 => .nx (Γ.set i (some x)) S1
  | .n c S1 => .nx (Γ.set i (some (.r S1.length))) (S1 ++ [c])
  | .ex e S1 => .ex e Γ S1
  | .bad => .bad
theorem OKr.snoc {a : Addr} {I : List Addr} (o : OKr k0 ρ I) (h : a ∉ I) : OKr k0 (ρ ++ [a]) I := by
  refine ⟨by rw [List.length_append]; exact Nat.le_trans o.1 (Nat.le_add_right _ _), fun k b hk e => ?_⟩
  by_cases q : k < ρ.length
  · rw [List.getElem?_append_left q] at e
    exact o.2 k b hk e
  · rw [List.getElem?_append_right (by omega)] at e
    cases z : k - ρ.length with
    | zero => rw [z] at e; cases e; exact h
    | succ n => rw [z] at e; cases e
theorem rm_asgC (h : EM K W P te m) : RM K W P k0 (tAsg te (gName i)) (asgC i m) := fun ρ Γ S G C e B g s o hr => by
  have h0 := h ρ Γ S G C g s
  unfold asgC at hr
  revert h0 hr
  cases m Γ S with
  | v x S1 => exact fun hr ⟨d, C1, h1, h2, h3⟩ => r_asg h3 (hr ρ _ _ (preR ρ) o (g.set h1) h2)
  | n mc S1 =>
    intro hr ⟨c, C1, h1, h2, h3⟩
    refine r_asgN h3 fun a hI => ?_
    have pre : ρ <+: ρ ++ [a] := List.prefix_append _ _
    refine hr (ρ ++ [a]) _ _ pre (o.snoc hI) ((g.mono pre).set ⟨a, ?_, rfl⟩) (h2.alloc h1)
    rw [← h2.len, List.getElem?_append_right (Nat.le_refl _), Nat.sub_self] <;> rfl
  | ex e' S1 => exact fun hr ⟨C1, h2, h3⟩ => r_asgX h3 (hr ρ _ _ (preR ρ) o g h2)
  | bad => exact fun hr => hr.elim
/-- e -/
def dropM (m : ME) : MS := fun Γ S => match (m Γ S).val with
  | .v _ S1 => .nx Γ S1
  | .ex e S1 => .ex e Γ S1
  | .bad => .bad
theorem rm_drop (h : EM K W P te m) : RM K W P k0 (tDrop te) (dropM m) := fun ρ Γ S G C e B g s o hr => by
  have h0 := val_ok (h ρ Γ S G C g s)
  unfold dropM at hr
  revert h0 hr
  cases (m Γ S).val with
  | v x S1 => exact fun hr ⟨d, C1, h1, h2, h3⟩ => r_drop h3 (hr ρ _ _ (preR ρ) o g h2)
  | ex e' S1 => exact fun hr ⟨C1, h2, h3⟩ => r_dropX h3 (hr ρ _ _ (preR ρ) o g h2)
  | bad => exact fun hr => hr.elim
/-- return e -/
def retM (m : ME) : MS := fun Γ S => match m Γ S with
  | .v x S1 => .rt x S1
  | .n c S1 => .rn c S1
  | .ex e S1 => .ex e Γ S1
  | .bad => .bad
theorem rm_ret (h : EM K W P te m) : RM K W P k0 (tRet te) (retM m) := fun ρ Γ S G C e B g s o hr => by
  have h0 := h ρ Γ S G C g s
  unfold retM at hr
  revert h0 hr
  cases m Γ S with
  | v x S1 =>
    intro hr ⟨d, C1, h1, h2, h3⟩
    cases x with
    | p d' =>
      obtain rfl : d = d' := h1
      exact r_ret h3 (hr ρ C1 (preR ρ) o h2)
    | r k =>
      obtain ⟨a, ha, rfl⟩ := h1
      by_cases hk : k < k0
      · exact r_ret h3 (hr.1 hk ρ a C1 (preR ρ) o ha h2)
      · obtain ⟨m', em, hg, f⟩ := hr.2 (by omega)
        obtain ⟨a', c, R, q1, q2, q3, _, q5⟩ := h2.get em hg
        rw [ha] at q1
        cases q1
        exact r_retC' h3 q3 (o.2 k a (by omega) ha) (f ρ c R (preR ρ) o q2 q5)
  | n mc S1 => exact fun hr ⟨c, C1, h1, h2, h3⟩ => r_retN h3 (hr ρ c C1 (preR ρ) o h1 h2)
  | ex e' S1 => exact fun hr ⟨C1, h2, h3⟩ => r_retX h3 (hr ρ _ _ (preR ρ) o g h2)
  | bad => exact fun hr => hr.elim
def ret0M : MS := fun _ S => .rt (.p dN) S
theorem rm_ret0 : RM K W P k0 tRetN ret0M := fun ρ Γ S G C e B g s o hr => r_retNone (hr ρ C (preR ρ) o s)
/-- if -/
def ifS (c : MT) (a b : MS) : MS := fun Γ S => match c Γ S with
  | .ok true S1 => a Γ S1
  | .ok false S1 => b Γ S1
  | .ex e S1 => .ex e Γ S1
  | .bad => .bad
theorem r_ifX {e : Ent} {B : Bd} {x : Exn} (h : EvTX K W tt G C x C1) (k : B.xc x G C1) : Run K W (tIfS tt t u) e G C B := fun σ H D ⟨F, a⟩ E =>
  h σ H F a.sa _ fun dd C2 H1 F1 z1 p1 s1 => E.xc _ _ _ _ _ _ _ _ k (z1.np a.po) (a.step p1 s1)
theorem rm_if {c : MT} (hc : TM K W P tt c) (ha : RM K W P k0 t a) (hb : RM K W P k0 u b) : RM K W P k0 (tIfS tt t u) (ifS c a b) := fun ρ Γ S G C e B g s o hr => by
  have h0 := hc ρ Γ S G C g s
  unfold ifS at hr
  revert h0 hr
  cases c Γ S with
  | ok b' S1 =>
    cases b' with
    | true => exact fun hr ⟨C1, h2, h3⟩ => r_if h3 (fun _ => ha ρ Γ S1 G C1 e B g h2 o hr) fun q => by cases q
    | false => exact fun hr ⟨C1, h2, h3⟩ => r_if h3 (fun q => by cases q) fun _ => hb ρ Γ S1 G C1 e B g h2 o hr
  | ex e' S1 => exact fun hr ⟨C1, h2, h3⟩ => r_ifX h3 (hr ρ _ _ (preR ρ) o g h2)
  | bad => exact fun hr => hr.elim
/-- while -/
def whileL (mt : MT) (wp : List Nat) (body : MS) : Nat → MEnv → Store → Rs
  | 0, _, _ => .bad
  | n + 1, Γ, S => match mt Γ S with
    | .ok true S1 => match body Γ S1 with
      | .nx Γ2 S2 => whileL mt wp body n (wipeE Γ2 wp) S2
      | .ct Γ2 S2 => whileL mt wp body n (wipeE Γ2 wp) S2
      | .bk Γ2 S2 => .nx (wipeE Γ2 wp) S2
      | r => r
    | .ok false S1 => .nx Γ S1
    | .ex _ _ => .bad
    | .bad => .bad
def whileM (fuel : Nat) (mt : MT) (wp : List Nat) (body : MS) : MS := fun Γ S => whileL mt wp body fuel (wipeE Γ wp) S
theorem rm_while {fuel : Nat} {mt : MT} {wp : List Nat} (hc : TM K W P tt mt) (hb : RM K W P k0 t b) : RM K W P k0 (tWhile tt t) (whileM fuel mt wp b) := fun ρ Γ S G C e B g s o hr => by
  refine r_while (fun n G' C' => ∃ ρ' Γ' S', ρ <+: ρ' ∧ OKr k0 ρ' e.I ∧ GR P ρ' Γ' G' ∧ SR ρ' S' C' ∧ RsOk P k0 e.I B ρ' (whileL mt wp b n Γ' S')) fuel ⟨ρ, wipeE Γ wp, S, preR ρ, o, g.wipe wp, s, hr⟩ ?_
  intro n G' C' ⟨ρ', Γ', S', p, o', g', s', hr'⟩
  cases n with
  | zero => exact hr'.elim
  | succ n =>
    simp only [whileL] at hr'
    have h0 := hc ρ' Γ' S' G' C' g' s'
    revert h0 hr'
    cases mt Γ' S' with
    | ok b' S1 =>
      cases b' with
      | false => exact fun hr' ⟨C1, h2, h3⟩ => ⟨false, C1, h3, (fun q => by cases q), fun _ => hr' ρ' G' C1 (preR ρ') o' g' h2⟩
      | true =>
        intro hr' ⟨C1, h2, h3⟩
        refine ⟨true, C1, h3, fun _ => hb ρ' Γ' S1 G' C1 e _ g' h2 o' ?_, fun q => by cases q⟩
        revert hr'
        dsimp only
        cases b Γ' S1 with
        | nx Γ2 S2 => exact fun hr' ρ2 G2 C2 p2 o2 g2 s2 => ⟨n, Nat.lt_succ_self n, ρ2, _, S2, p.trans p2, o2, g2.wipe wp, s2, hr'.mono p2⟩
        | ct Γ2 S2 => exact fun hr' ρ2 G2 C2 p2 o2 g2 s2 => ⟨n, Nat.lt_succ_self n, ρ2, _, S2, p.trans p2, o2, g2.wipe wp, s2, hr'.mono p2⟩
        | bk Γ2 S2 => exact fun hr' ρ2 G2 C2 p2 o2 g2 s2 => hr' ρ2 G2 C2 p2 o2 (g2.wipe wp) s2
        | rt x S2 => cases x <;> exact id
        | rn c S2 => exact id
        | ex e' Γ2 S2 => exact id
        | bad => exact id
    | ex e' S1 => exact fun hr' => hr'.elim
    | bad => exact fun hr' => hr'.elim
end

/-! ### what is walked -/
inductive IR where
  | ok (ds : List Dat) (S : Store)
  | ex (e : Exn) (S : Store)
  | bad
abbrev MI := MEnv → Store → IR
def EvIX (K : PySem.W.Frag) (W : WX) (wi : TI) (Γ : Gam) (C : Cells) (x : Exn) (C' : Cells) : Prop := ∀ σ H F, Sat K Γ C σ H F → ∀ R : It → Hp → Prop,
  (∀ d C'' H' F', XSat (frH H) x C' d C'' → Post C F H C'' F' H' → Sat K Γ C'' σ H' F' → W (.ref (clOf K x.cls)) d σ H') → wi σ H R
def IOk (K : PySem.W.Frag) (W : WX) (wi : TI) (ρ : List Addr) (G : Gam) (C : Cells) : IR → Prop
  | .ok ds S' => ∃ C', SR ρ S' C' ∧ EvI K wi G C ds C'
  | .ex e S' => ∃ C', SR ρ S' C' ∧ EvIX K W wi G C e C'
  | .bad => True
def IM (K : PySem.W.Frag) (W : WX) (P : List (Nat × Addr)) (wi : TI) (m : MI) : Prop := ∀ ρ Γ S G C, GR P ρ Γ G → SR ρ S C → IOk K W wi ρ G C (m Γ S)
/-- targets -/
abbrev MG := Dat → MEnv → Option MEnv
def GM (K : PySem.W.Frag) (P : List (Nat × Addr)) (g : TG) (mg : MG) : Prop := ∀ ρ Γ G d Γ', GR P ρ Γ G → mg d Γ = some Γ' → ∃ G', AsgT K g d G G' ∧ GR P ρ Γ' G'
def mgN (i : Nat) : MG := fun d Γ => some (Γ.set i (some (.p d)))
def mgAll : List MG → List Dat → MEnv → Option MEnv
  | [], [], Γ => some Γ
  | g :: gs, d :: ds, Γ => match g d Γ with
    | some Γ1 => mgAll gs ds Γ1
    | none => none
  | _, _, _ => none
def mgT (gs : List MG) : MG := fun d Γ => match d with
  | .tup ds => mgAll gs ds Γ
  | _ => none
def mgL (gs : List MG) : MG := fun d Γ => match d with
  | .lst ds => mgAll gs ds Γ
  | _ => none
def GA (K : PySem.W.Frag) (P : List (Nat × Addr)) (g : TGs) (gs : List MG) : Prop := ∀ ρ Γ G ds Γ', GR P ρ Γ G → mgAll gs ds Γ = some Γ' → ds.length = gs.length ∧ ∃ G', AsgTs K g ds G G' ∧ GR P ρ Γ' G'
theorem gm_name : GM K P (gName i) (mgN i) := fun ρ Γ G d Γ' g h => by
  cases h
  exact ⟨_, at_name, g.set rfl⟩
theorem ga_nil : GA K P gNil [] := fun ρ Γ G ds Γ' g h => by
  cases ds with
  | nil => cases h; exact ⟨rfl, G, ats_nil, g⟩
  | cons => cases h
theorem ga_cons {g : TG} {gs : TGs} {mg : MG} {mgs : List MG} (h1 : GM K P g mg) (h2 : GA K P gs mgs) : GA K P (gCons g gs) (mg :: mgs) := fun ρ Γ G ds Γ' g0 h => by
  cases ds with
  | nil => cases h
  | cons d ds =>
    simp only [mgAll] at h
    split at h
    · rename_i Γ1 e
      obtain ⟨G1, q1, q2⟩ := h1 ρ Γ G d Γ1 g0 e
      obtain ⟨ql, G2, q3, q4⟩ := h2 ρ Γ1 G1 ds Γ' q2 h
      exact ⟨by simp [ql], G2, ats_cons q1 q3, q4⟩
    · cases h
theorem gm_tup {gs : TGs} {mgs : List MG} {n : Nat} (h : GA K P gs mgs) (hn : mgs.length = n) : GM K P (gTup K n gs) (mgT mgs) := fun ρ Γ G d Γ' g h' => by
  unfold mgT at h'
  split at h'
  · obtain ⟨ql, G2, q3, q4⟩ := h ρ Γ G _ Γ' g h'
    exact ⟨G2, at_tup q3 (ql.trans hn), q4⟩
  · cases h'
theorem gm_unl {gs : TGs} {mgs : List MG} {n : Nat} (h : GA K P gs mgs) (hn : mgs.length = n) : GM K P (gUnl K n gs) (mgL mgs) := fun ρ Γ G d Γ' g h' => by
  unfold mgL at h'
  split at h'
  · obtain ⟨ql, G2, q3, q4⟩ := h ρ Γ G _ Γ' g h'
    exact ⟨G2, at_lst q3 (ql.trans hn), q4⟩
  · cases h'
/-- target = e -/
def asgT (mg : MG) (m : ME) : MS := fun Γ S => match (m Γ S).pure with
  | .d d S1 => match mg d Γ with
    | some Γ1 => .nx Γ1 S1
    | none => .bad
  | .ex e S1 => .ex e Γ S1
  | .bad => .bad
theorem rm_asgT {k0 : Nat} {g : TG} {mg : MG} (h : EM K W P te m) (hg : GM K P g mg) : RM K W P k0 (tAsg te g) (asgT mg m) := fun ρ Γ S G C e B g0 s o hr => by
  have h0 := pure_ok (h ρ Γ S G C g0 s)
  unfold asgT at hr
  revert h0 hr
  cases (m Γ S).pure with
  | d d S1 =>
    intro hr ⟨C1, h2, h3⟩
    dsimp only at hr
    split at hr
    · rename_i Γ1 e1
      obtain ⟨G1, q1, q2⟩ := hg ρ Γ G d Γ1 g0 e1
      exact r_asgT h3 q1 (hr ρ _ _ (preR ρ) o q2 h2)
    · exact hr.elim
  | ex e' S1 => exact fun hr ⟨C1, h2, h3⟩ => r_asgX h3 (hr ρ _ _ (preR ρ) o g0 h2)
  | bad => exact fun hr => hr.elim
/-- for -/
def forL (mg : MG) (wp : List Nat) (body : MS) : List Dat → MEnv → Store → Rs
  | [], Γ, S => .nx Γ S
  | d :: ds, Γ, S => match mg d Γ with
    | some Γ1 => match body Γ1 S with
      | .nx Γ2 S2 => forL mg wp body ds (wipeE Γ2 wp) S2
      | .ct Γ2 S2 => forL mg wp body ds (wipeE Γ2 wp) S2
      | .bk Γ2 S2 => .nx (wipeE Γ2 wp) S2
      | r => r
    | none => .bad
def forM (mi : MI) (mg : MG) (wp : List Nat) (body : MS) : MS := fun Γ S => match mi Γ S with
  | .ok ds S1 => forL mg wp body ds (wipeE Γ wp) S1
  | .ex e S1 => .ex e Γ S1
  | .bad => .bad
theorem r_forX {wi : TI} {g : TG} {t : TS} {e : Ent} {B : Bd} {x : Exn} (h : EvIX K W wi G C x C1) (k : B.xc x G C1) : Run K W (tFor wi g t) e G C B := fun σ H D ⟨F, a⟩ E =>
  h σ H F a.sa _ fun dd C2 H1 F1 z1 p1 s1 => E.xc _ _ _ _ _ _ _ _ k (z1.np a.po) (a.step p1 s1)
theorem rm_for {k0 : Nat} {wi : TI} {mi : MI} {g : TG} {mg : MG} {wp : List Nat} {t : TS} {b : MS} (hi : IM K W P wi mi) (hg : GM K P g mg) (hb : RM K W P k0 t b) : RM K W P k0 (tFor wi g t) (forM mi mg wp b) := fun ρ Γ S G C e B g0 s o hr => by
  have h0 := hi ρ Γ S G C g0 s
  unfold forM at hr
  revert h0 hr
  cases mi Γ S with
  | ok ds S1 =>
    intro hr ⟨C1, h2, h3⟩
    refine r_for h3 (fun n G' C' => ∃ ρ' Γ' S', ρ <+: ρ' ∧ OKr k0 ρ' e.I ∧ GR P ρ' Γ' G' ∧ SR ρ' S' C' ∧ RsOk P k0 e.I B ρ' (forL mg wp b (ds.drop n) Γ' S')) ⟨ρ, wipeE Γ wp, S1, preR ρ, o, g0.wipe wp, h2, hr⟩ ?_ ?_
    · intro e' n d G' C' he hd ⟨ρ', Γ', S', p, o', g', s', hr'⟩
      have dr : ds.drop n = d :: ds.drop (n + 1) := by
        obtain ⟨hl, rfl⟩ := List.getElem?_eq_some_iff.1 hd
        exact List.drop_eq_getElem_cons hl
      rw [dr] at hr'
      simp only [forL] at hr'
      split at hr'
      · rename_i Γ1 e1
        obtain ⟨G1, q1, q2⟩ := hg ρ' Γ' G' d Γ1 g' e1
        refine ⟨G1, q1, hb ρ' Γ1 S' G1 C' e' _ q2 s' (by rw [he]; exact o') ?_⟩
        rw [he]
        revert hr'
        cases b Γ1 S' with
        | nx Γ2 S2 => exact fun hr' ρ2 G2 C2 p2 o2 g2 s2 => ⟨ρ2, _, S2, p.trans p2, o2, g2.wipe wp, s2, hr'.mono p2⟩
        | ct Γ2 S2 => exact fun hr' ρ2 G2 C2 p2 o2 g2 s2 => ⟨ρ2, _, S2, p.trans p2, o2, g2.wipe wp, s2, hr'.mono p2⟩
        | bk Γ2 S2 => exact fun hr' ρ2 G2 C2 p2 o2 g2 s2 => hr' ρ2 G2 C2 p2 o2 (g2.wipe wp) s2
        | rt x S2 => cases x <;> exact id
        | rn c S2 => exact id
        | ex e' Γ2 S2 => exact id
        | bad => exact id
      · exact hr'.elim
    · intro G' C' ⟨ρ', Γ', S', p, o', g', s', hr'⟩
      rw [List.drop_length] at hr'
      exact hr' ρ' G' C' (preR ρ') o' g' s'
  | ex e' S1 => exact fun hr ⟨C1, h2, h3⟩ => r_forX h3 (hr ρ _ _ (preR ρ) o g0 h2)
  | bad => exact fun hr => hr.elim
end
end Mr
end

section
set_option maxRecDepth 100000
set_option maxHeartbeats 4000000
/-! Mr4: the rule for a def; comprehensions; stores. -/
namespace Mr
open PySem L2 Dm

def fin (k0 : Nat) : Rs → DR
  | .nx _ S => .ret (.p dN) (S.take k0)
  | .rt (.p d) S => .ret (.p d) (S.take k0)
  | .rt (.r k) S => match decide (k < k0) with
    | true => .ret (.r k) (S.take k0)
    | false => match S[k]? with
      | some c => .new c (S.take k0)
      | none => .bad
  | .rn c S => .new c (S.take k0)
  | .ex e _ S => .exc e (S.take k0)
  | _ => .bad
/-- a def's mirror: N names, np parameters -/
def defM (N np : Nat) (body : MS) : DM := fun xs S => match decide (xs.length = np) with
  | true => fin S.length (body (xs.map some ++ List.replicate (N - xs.length) none) S)
  | false => .bad

section
variable {K : PySem.W.Frag} {W : WX} {P : List (Nat × Addr)} {ρ ρ' : List Addr} {Γ Γ' : MEnv} {S S1 T : Store} {G : Gam} {C C0 C1 C2 : Cells} {te ta tb : TE} {tt tu : TT} {m ma mb : ME} {c c' : Cell} {mc : MCell} {d d' : Dat} {x : Val} {i k0 : Nat} {L L' : Cells} {as : List Addr}
theorem VR.fn (p : ρ <+: ρ') (h : VR ρ x d) (h' : VR ρ' x d') : d = d' := by
  cases x with
  | p e => exact (show d = e from h).trans (show d' = e from h').symm
  | r k =>
    obtain ⟨a, h1, rfl⟩ := h
    obtain ⟨b, h2, rfl⟩ := h'
    rw [pre_get p h1] at h2
    cases h2
    rfl
theorem FR.fn (p : ρ <+: ρ') {fs : List (Str × Val)} {gs gs' : List (Str × Dat)} (h : FR ρ fs gs) (h' : FR ρ' fs gs') : gs = gs' := by
  induction h generalizing gs' with
  | nil => cases h'; rfl
  | cons h t ih =>
    cases h' with
    | cons h2 t2 => rw [h.fn p h2, ih t2]
theorem CR.fn (p : ρ <+: ρ') (h : CR ρ mc c) (h' : CR ρ' mc c') : c = c' := by
  cases mc with
  | lst ds => exact (show c = .lst ds from h).trans (show c' = .lst ds from h').symm
  | dK ds => exact (show c = .dK ds from h).trans (show c' = .dK ds from h').symm
  | xd ds => exact (show c = .xd ds from h).trans (show c' = .xd ds from h').symm
  | ins n fs =>
    obtain ⟨gs, rfl, h⟩ := h
    obtain ⟨gs', rfl, h'⟩ := h'
    rw [h.fn p h']
  | gone => exact h.elim
theorem SRL.fn (p : ρ <+: ρ') (h : SRL ρ as S L) (h' : SRL ρ' as S L') : L = L' := by
  induction h generalizing L' with
  | nil => cases h'; rfl
  | cons h t ih =>
    cases h' with
    | cons h2 t2 => rw [h.fn p h2, ih t2]
    | gone => exact h.elim
  | gone t ih =>
    cases h' with
    | cons h2 _ => exact h2.elim
    | gone t2 => exact ih t2
theorem SRL.split : ∀ {as as' : List Addr} {T T' : Store} {L : Cells}, as.length = T.length → SRL ρ (as ++ as') (T ++ T') L → ∃ L1 L2, L = L1 ++ L2 ∧ SRL ρ as T L1
  | [], as', [], T', L, _, h => ⟨[], L, rfl, .nil⟩
  | [], _, _ :: _, _, _, h, _ => by simp at h
  | _ :: _, _, [], _, _, h, _ => by simp at h
  | a :: as, as', t :: T, T', L, hl, h => by
    have h' : SRL ρ (a :: (as ++ as')) (t :: (T ++ T')) L := h
    cases h' with
    | cons h1 t1 =>
      obtain ⟨L1, L2, rfl, q⟩ := SRL.split (as := as) (by simpa using hl) t1
      exact ⟨_, L2, rfl, .cons h1 q⟩
    | gone t1 =>
      obtain ⟨L1, L2, rfl, q⟩ := SRL.split (as := as) (by simpa using hl) t1
      exact ⟨_, L2, rfl, .gone q⟩
theorem sub_of (p : ρ <+: ρ') (h : SR ρ (S.take ρ.length) C0) (h' : SR ρ' S C) : SubP C0 C := by
  obtain ⟨t, rfl⟩ := p
  obtain ⟨L0, h1, h2⟩ := h
  obtain ⟨L, h3, h4⟩ := h'
  have h3' := h3
  rw [← List.take_append_drop ρ.length S] at h3'
  obtain ⟨L1, L2, rfl, q⟩ := SRL.split (by rw [← h1.len]) h3'
  have e := h1.fn (List.prefix_append _ _) q
  subst e
  exact ⟨L2, h4.trans (List.Perm.append_right _ h2.symm)⟩
theorem fin_rs {I : List Addr} {r : Rs} {o : Out} (h : DOk ρ (fin ρ.length r) o) : RsOk P ρ.length I (Bof o) ρ r := by
  cases r with
  | nx Γ S =>
    obtain ⟨d, C0, h1, h2, rfl⟩ := h
    exact fun ρ' G C p _ _ s => ⟨h1, sub_of p h2 s⟩
  | rt x S =>
    cases x with
    | p d =>
      obtain ⟨d', C0, h1, h2, rfl⟩ := h
      exact fun ρ' C p _ s => ⟨h1, sub_of p h2 s⟩
    | r k =>
      simp only [fin] at h
      refine ⟨fun hk => ?_, fun hk => ?_⟩
      · rw [decide_eq_true hk] at h
        obtain ⟨d', C0, ⟨a, ha, rfl⟩, h2, rfl⟩ := h
        intro ρ' b C p _ hb s
        rw [pre_get p ha] at hb
        cases hb
        exact ⟨rfl, sub_of p h2 s⟩
      · rw [decide_eq_false (by omega)] at h
        dsimp only at h
        split at h
        · rename_i c e
          obtain ⟨c0, C0, h1, h2, rfl⟩ := h
          refine ⟨c, e, fun z => by subst z; exact h1.elim, fun ρ' c' R p _ h3 s => ⟨h1.fn p h3, ?_⟩⟩
          refine sub_of p ?_ s
          rw [List.take_set_of_le (by omega)]
          exact h2
        · exact h.elim
  | rn c S =>
    obtain ⟨c0, C0, h1, h2, rfl⟩ := h
    exact fun ρ' c' C p _ h3 s => ⟨h1.fn p h3, sub_of p h2 s⟩
  | ex e Γ S =>
    obtain ⟨C0, h2, rfl⟩ := h
    exact fun ρ' G C p _ _ s => ⟨rfl, sub_of p h2 s⟩
  | bk Γ S => exact h.elim
  | ct Γ S => exact h.elim
  | bad => exact h.elim
theorem VRs.len {xs : List Val} {ds : List Dat} (h : VRs ρ xs ds) : xs.length = ds.length := by
  induction h with
  | nil => rfl
  | cons h t ih => simp [ih]
theorem VRs.get {xs : List Val} {ds : List Dat} (h : VRs ρ xs ds) : ∀ {i : Nat} {x : Val}, xs[i]? = some x → ∃ d, ds[i]? = some d ∧ VR ρ x d := by
  induction h with
  | nil => intro i x e; cases e
  | cons h t ih =>
    intro i x e
    cases i with
    | zero => cases e; exact ⟨_, rfl, h⟩
    | succ i => exact ih (i := i) e
theorem gr0 {N : List Str} {xs : List Val} {ds : List Dat} (h : VRs ρ xs ds) : GR [] ρ (xs.map some ++ List.replicate (N.length - xs.length) none) (gam0 N ds) := by
  have hl := h.len
  refine ⟨(fun q m => by cases m), by unfold gam0; simp [hl], fun i x e => ?_⟩
  by_cases hi : i < xs.length
  · rw [List.getElem?_append_left (by simpa using hi), List.getElem?_map] at e
    cases q : xs[i]? with
    | none => rw [q] at e; cases e
    | some y =>
      rw [q] at e
      cases e
      obtain ⟨d, h1, h2⟩ := h.get q
      exact ⟨d, by unfold gam0; rw [List.getElem?_append_left (by rw [List.length_map, ← hl]; exact hi), List.getElem?_map, h1] <;> rfl, h2⟩
  · rw [List.getElem?_append_right (by simpa using hi), List.getElem?_replicate] at e
    split at e
    · cases e
    · cases e
/-- THE RULE for a def -/
theorem def_okM {P : Program} {w : World} {mg : Str → Option Value} {base : Heap} {name qual : Str} {st : Stmt} {f : Addr} {fd : FuncData} {N ps : List Str} {k : Nat} {body : MS} (Fn : Fun K name qual st f fd) (S : FnScope N ps (defScope st))
    (hb : ∀ (cdv : Value) (A : Around) (outer : List Env) (s : Shared) (H : Hp) (E : XK), Room k (A.deeper (PyProof.Rows.envOfC qual (defScope st) s.heap.objs.size f cdv)) →
      ∃ t, PSs (cxD P w K mg base N qual st f cdv A outer s H E) (defBody st) t ∧ ∀ k0, RM K (wD E) [] k0 t body) :
    FnOk P w K mg base (L2.CX P w) (k + 1) f fd ps (spF K (MirF (defM N.length ps.length body))) := by
  refine def_ok Fn S (fun p ⟨ρ, xs, S0, h1, h2, h3⟩ => ?_) fun cdv A outer s H E hr => ?_
  · unfold defM at h3
    split at h3
    · rename_i e
      rw [← h1.len]
      exact of_decide_eq_true e
    · exact h3.elim
  · obtain ⟨t, ht, hR⟩ := hb cdv A outer s H E hr
    refine ⟨t, ht, fun p ⟨ρ, xs, S0, h1, h2, h3⟩ e he => ?_⟩
    unfold defM at h3
    split at h3
    · rw [← h2.len] at h3
      refine hR ρ.length ρ _ S0 _ _ e _ (gr0 h1) h2 ⟨Nat.le_refl _, fun k a hk e => ?_⟩ (fin_rs h3)
      rw [List.getElem?_eq_none hk] at e
      cases e
    · exact h3.elim

/-! ### comprehensions -/
def GW (K : PySem.W.Frag) (P : List (Nat × Addr)) (g : TG) (vs : List Nat) (mg : MG) : Prop := ∀ ρ Γ G d Γ', GR P ρ Γ G → mg d (wipeE Γ vs) = some Γ' → ∃ G', AsgW K g d G vs G' ∧ GR P ρ Γ' G'
theorem GR.setNN (g : GR P ρ Γ G) : GR P ρ (Γ.set i none) (G.set i none) := by
  refine ⟨g.px, by rw [List.length_set, List.length_set]; exact g.len, fun j y hj => ?_⟩
  by_cases q : i = j
  · subst q
    have hl : i < Γ.length := by
      have := (List.getElem?_eq_some_iff.mp hj).1
      rwa [List.length_set] at this
    rw [List.getElem?_set_self hl] at hj
    cases hj
  · rw [List.getElem?_set_ne q] at hj ⊢
    exact g.at_ j y hj
theorem GR.wipe2 (g : GR P ρ Γ G) : ∀ vs, GR P ρ (wipeE Γ vs) (wipeG G vs)
  | [] => g
  | v :: vs => (g.wipe2 vs).setNN
theorem gw_name {vs : List Nat} (h : i ∈ vs) : GW K P (gName i) vs (mgN i) := fun ρ Γ G d Γ' g e => by
  cases e
  exact ⟨_, aw_name h, (g.wipe2 vs).set rfl⟩
def GWs (K : PySem.W.Frag) (P : List (Nat × Addr)) (g : TGs) (vs : List Nat) (mgs : List MG) : Prop := ∀ ρ Γ G ds Γ', GR P ρ Γ G → mgAll mgs ds Γ = some Γ' → ds.length = mgs.length ∧ ∃ G', AsgsW K g ds G vs G' ∧ GR P ρ Γ' G'
theorem gws_nil {vs : List Nat} : GWs K P gNil vs [] := fun ρ Γ G ds Γ' g h => by
  cases ds with
  | nil => cases h; exact ⟨rfl, G, aws_nil, g⟩
  | cons => cases h
theorem gws_cons {vs : List Nat} {gs : TGs} {mgs : List MG} (h : i ∈ vs) (h2 : GWs K P gs vs mgs) : GWs K P (gCons (gName i) gs) vs (mgN i :: mgs) := fun ρ Γ G ds Γ' g0 e => by
  cases ds with
  | nil => cases e
  | cons d ds =>
    obtain ⟨ql, G2, q3, q4⟩ := h2 ρ _ (G.set i (some d)) ds Γ' (g0.set (x := .p d) rfl) e
    exact ⟨by simp [ql], G2, aws_cons h q3, q4⟩
theorem gw_tup {vs : List Nat} {gs : TGs} {mgs : List MG} {n : Nat} (h : GWs K P gs vs mgs) (hn : mgs.length = n) : GW K P (gTup K n gs) vs (mgT mgs) := fun ρ Γ G d Γ' g e => by
  unfold mgT at e
  split at e
  · obtain ⟨ql, G2, q3, q4⟩ := h ρ _ _ _ Γ' (g.wipe2 vs) e
    exact ⟨G2, aw_tup q3 (ql.trans hn), q4⟩
  · cases e
def yesT : MT := fun _ S => .ok true S
theorem tm_yes : TM K W P tYes yesT := fun ρ Γ S G C g s => ⟨C, s, fun σ H F s Q q => q H F Post.refl s⟩
def lcL (mg : MG) (vs : List Nat) (mt : MT) (me : ME) (Γ : MEnv) : List Dat → Store → Option (List Dat × Store)
  | [], S => some ([], S)
  | d :: ds, S => match mg d (wipeE Γ vs) with
    | none => none
    | some Γ1 => match mt Γ1 S with
      | .ok false S1 => lcL mg vs mt me Γ ds S1
      | .ok true S1 => match (me Γ1 S1).pure with
        | .d e S2 => match lcL mg vs mt me Γ ds S2 with
          | some (es, S3) => some (e :: es, S3)
          | none => none
        | _ => none
      | _ => none
def lcM (mi : MI) (mg : MG) (vs : List Nat) (mt : MT) (me : ME) : ME := fun Γ S => match mi Γ S with
  | .ok ds S1 => match decide (ds.length ≤ 100000) with
    | true => match lcL mg vs mt me Γ ds S1 with
      | some (es, S2) => .n (.lst es) S2
      | none => .bad
    | false => .bad
  | .ex e S1 => .ex e S1
  | .bad => .bad
/-- one turn -/
def Tn (K : PySem.W.Frag) (g : TG) (vs : List Nat) (tt : TT) (te : TE) (G : Gam) (d : Dat) (x y : List Dat × Cells) : Prop := ∃ G2 b C3, AsgW K g d G vs G2 ∧ EvT K tt G2 x.2 b C3 ∧ (b = false → y = (x.1, C3)) ∧ (b = true → ∃ e C4, Ev K te G2 C3 e C4 ∧ y = (x.1 ++ [e], C4))
theorem lc_chain {g : TG} {mg : MG} {vs : List Nat} {mt : MT} {W' : WX} (hg : GW K P g vs mg) (ht : TM K W' P tt mt) (he : EM K W' P te m) (g0 : GR P ρ Γ G) : ∀ {ds : List Dat} {S S' : Store} {es acc : List Dat} {C : Cells}, SR ρ S C → lcL mg vs mt m Γ ds S = some (es, S') →
    ∃ f : Nat → List Dat × Cells, f 0 = (acc, C) ∧ (∀ i d, ds[i]? = some d → Tn K g vs tt te G d (f i) (f (i + 1))) ∧ (f ds.length).1 = acc ++ es ∧ SR ρ S' (f ds.length).2
  | [], S, S', es, acc, C, s, h => by
    cases h
    exact ⟨fun _ => (acc, C), rfl, (fun i d e => by cases e), by simp, s⟩
  | d :: ds, S, S', es, acc, C, s, h => by
    simp only [lcL] at h
    split at h
    · cases h
    · rename_i Γ1 e1
      obtain ⟨G1, q1, q2⟩ := hg ρ Γ G d Γ1 g0 e1
      have h1 := ht ρ Γ1 S G1 C q2 s
      revert h h1
      cases mt Γ1 S with
      | ok b S1 =>
        cases b with
        | false =>
          intro h ⟨C1, s1, h1⟩
          obtain ⟨f, f0, f1, f2, f3⟩ := lc_chain (acc := acc) hg ht he g0 s1 h
          refine ⟨fun n => match n with | 0 => (acc, C) | n + 1 => f n, rfl, fun i d' e => ?_, f2, f3⟩
          cases i with
          | zero => cases e; exact ⟨G1, false, C1, q1, h1, fun _ => f0, fun z => by cases z⟩
          | succ i => exact f1 i d' e
        | true =>
          intro h ⟨C1, s1, h1⟩
          dsimp only at h
          have h2 := pure_ok (he ρ Γ1 S1 G1 C1 q2 s1)
          revert h h2
          cases (m Γ1 S1).pure with
          | d e2 S2 =>
            intro h ⟨C2, s2, h2⟩
            dsimp only at h
            split at h
            · rename_i es' S3 e3
              cases h
              obtain ⟨f, f0, f1, f2, f3⟩ := lc_chain (acc := acc ++ [e2]) hg ht he g0 s2 e3
              refine ⟨fun n => match n with | 0 => (acc, C) | n + 1 => f n, rfl, fun i d' e => ?_, by rw [List.append_assoc] at f2; exact f2, f3⟩
              cases i with
              | zero => cases e; exact ⟨G1, true, C1, q1, h1, (fun z => by cases z), fun _ => ⟨e2, C2, h2, f0⟩⟩
              | succ i => exact f1 i d' e
            · cases h
          | ex e' S2 => exact fun h => by cases h
          | bad => exact fun h => by cases h
      | ex e' S1 => exact fun h => by cases h
      | bad => exact fun h => by cases h
theorem em_lc {W' : WX} {wi : TI} {mi : MI} {g : TG} {mg : MG} {vs : List Nat} {mt : MT} (hi : IM K W P wi mi) (hg : GW K P g vs mg) (ht : TM K W' P tt mt) (he : EM K W' P te m) : EM K W P (tLc wi g tt te vs) (lcM mi mg vs mt m) := fun ρ Γ S G C g0 s => by
  have h0 := hi ρ Γ S G C g0 s
  unfold lcM
  revert h0
  cases mi Γ S with
  | ok ds S1 =>
    intro ⟨C1, h2, h3⟩
    dsimp only
    split
    · rename_i hl
      split
      · rename_i es S2 e
        obtain ⟨f, f0, f1, f2, f3⟩ := lc_chain (acc := []) hg ht he g0 h2 e
        refine ⟨.lst es, (f ds.length).2, rfl, f3, en_lcG h3 (of_decide_eq_true hl) (fun i acc C' => (acc, C') = f i) f0.symm (fun i d acc C' hd hI => ?_) fun acc C' hI => ?_⟩
        · obtain ⟨G2, b, C3, a1, a2, a3, a4⟩ := f1 i d hd
          rw [← hI] at a2 a3 a4
          refine ⟨G2, b, C3, a1, a2, fun hb => (a3 hb).symm, fun hb => ?_⟩
          obtain ⟨e, C4, a5, a6⟩ := a4 hb
          exact ⟨e, C4, a5, a6.symm⟩
        · rw [← hI] at f2 ⊢
          exact ⟨f2, rfl⟩
      · trivial
    · trivial
  | ex e S1 => exact fun ⟨C', q1, q2⟩ => ⟨C', q1, fun σ H F s Q q => q2 σ H F s _ q⟩
  | bad => exact fun _ => trivial
def keyOf : Dat → Option Key
  | .v (.int i) => some (.inl i)
  | .v (.str z) => some (.inr z)
  | _ => none
theorem keyOf_kD {k : Key} (h : keyOf d = some k) : d = kD k := by
  unfold keyOf at h
  split at h
  · cases h; rfl
  · cases h; rfl
  · cases h
def dcL (mg : MG) (vs : List Nat) (mt : MT) (mk me : ME) (Γ : MEnv) : List Dat → Store → Option (List (Key × Dat) × Store)
  | [], S => some ([], S)
  | d :: ds, S => match mg d (wipeE Γ vs) with
    | none => none
    | some Γ1 => match mt Γ1 S with
      | .ok false S1 => dcL mg vs mt mk me Γ ds S1
      | .ok true S1 => match (mk Γ1 S1).pure with
        | .d kd S2 => match keyOf kd with
          | some k => match (me Γ1 S2).pure with
            | .d e S3 => match dcL mg vs mt mk me Γ ds S3 with
              | some (es, S4) => some ((k, e) :: es, S4)
              | none => none
            | _ => none
          | none => none
        | _ => none
      | _ => none
def dcM (mi : MI) (mg : MG) (vs : List Nat) (mt : MT) (mk me : ME) : ME := fun Γ S => match mi Γ S with
  | .ok ds S1 => match decide (ds.length ≤ 100000) with
    | true => match dcL mg vs mt mk me Γ ds S1 with
      | some (es, S2) => .n (.dK (mkD es)) S2
      | none => .bad
    | false => .bad
  | .ex e S1 => .ex e S1
  | .bad => .bad
def Tk (K : PySem.W.Frag) (g : TG) (vs : List Nat) (tt : TT) (tk tv : TE) (G : Gam) (d : Dat) (x y : List (Key × Dat) × Cells) : Prop := ∃ G2 b C3, AsgW K g d G vs G2 ∧ EvT K tt G2 x.2 b C3 ∧ (b = false → y = (x.1, C3)) ∧ (b = true → ∃ k e C4 C5, Ev K tk G2 C3 (kD k) C4 ∧ Ev K tv G2 C4 e C5 ∧ y = (putKD x.1 k e, C5))
theorem dc_chain {g : TG} {mg : MG} {vs : List Nat} {mt : MT} {mk mv : ME} {tk tv : TE} {W' : WX} (hg : GW K P g vs mg) (ht : TM K W' P tt mt) (hk : EM K W' P tk mk) (he : EM K W' P tv mv) (g0 : GR P ρ Γ G) : ∀ {ds : List Dat} {S S' : Store} {es acc : List (Key × Dat)} {C : Cells}, SR ρ S C → dcL mg vs mt mk mv Γ ds S = some (es, S') →
    ∃ f : Nat → List (Key × Dat) × Cells, f 0 = (acc, C) ∧ (∀ i d, ds[i]? = some d → Tk K g vs tt tk tv G d (f i) (f (i + 1))) ∧ (f ds.length).1 = es.foldl (fun acc p => putKD acc p.1 p.2) acc ∧ SR ρ S' (f ds.length).2
  | [], S, S', es, acc, C, s, h => by
    cases h
    exact ⟨fun _ => (acc, C), rfl, (fun i d e => by cases e), rfl, s⟩
  | d :: ds, S, S', es, acc, C, s, h => by
    simp only [dcL] at h
    split at h
    · cases h
    · rename_i Γ1 e1
      obtain ⟨G1, q1, q2⟩ := hg ρ Γ G d Γ1 g0 e1
      have h1 := ht ρ Γ1 S G1 C q2 s
      revert h h1
      cases mt Γ1 S with
      | ok b S1 =>
        cases b with
        | false =>
          intro h ⟨C1, s1, h1⟩
          obtain ⟨f, f0, f1, f2, f3⟩ := dc_chain (acc := acc) hg ht hk he g0 s1 h
          refine ⟨fun n => match n with | 0 => (acc, C) | n + 1 => f n, rfl, fun i d' e => ?_, f2, f3⟩
          cases i with
          | zero => cases e; exact ⟨G1, false, C1, q1, h1, fun _ => f0, fun z => by cases z⟩
          | succ i => exact f1 i d' e
        | true =>
          intro h ⟨C1, s1, h1⟩
          dsimp only at h
          have h2 := pure_ok (hk ρ Γ1 S1 G1 C1 q2 s1)
          revert h h2
          cases (mk Γ1 S1).pure with
          | d e2 S2 =>
            intro h ⟨C2, s2, h2⟩
            dsimp only at h
            split at h
            · rename_i k ek
              obtain rfl := keyOf_kD ek
              have h5 := pure_ok (he ρ Γ1 S2 G1 C2 q2 s2)
              revert h h5
              cases (mv Γ1 S2).pure with
              | d e5 S5 =>
                intro h ⟨C5, s5, h5⟩
                dsimp only at h
                split at h
                · rename_i es' S3 e3
                  cases h
                  obtain ⟨f, f0, f1, f2, f3⟩ := dc_chain (acc := putKD acc k e5) hg ht hk he g0 s5 e3
                  refine ⟨fun n => match n with | 0 => (acc, C) | n + 1 => f n, rfl, fun i d' e => ?_, f2, f3⟩
                  cases i with
                  | zero => cases e; exact ⟨G1, true, C1, q1, h1, (fun z => by cases z), fun _ => ⟨k, e5, C2, C5, h2, h5, f0⟩⟩
                  | succ i => exact f1 i d' e
                · cases h
              | ex e' S2 => exact fun h => by cases h
              | bad => exact fun h => by cases h
            · cases h
          | ex e' S2 => exact fun h => by cases h
          | bad => exact fun h => by cases h
      | ex e' S1 => exact fun h => by cases h
      | bad => exact fun h => by cases h
theorem em_dc {W' : WX} {wi : TI} {mi : MI} {g : TG} {mg : MG} {vs : List Nat} {mt : MT} {mk mv : ME} {tk tv : TE} (hi : IM K W P wi mi) (hg : GW K P g vs mg) (ht : TM K W' P tt mt) (hk : EM K W' P tk mk) (he : EM K W' P tv mv) : EM K W P (tDc wi g tt tk tv vs) (dcM mi mg vs mt mk mv) := fun ρ Γ S G C g0 s => by
  have h0 := hi ρ Γ S G C g0 s
  unfold dcM
  revert h0
  cases mi Γ S with
  | ok ds S1 =>
    intro ⟨C1, h2, h3⟩
    dsimp only
    split
    · rename_i hl
      split
      · rename_i es S2 e
        obtain ⟨f, f0, f1, f2, f3⟩ := dc_chain (acc := []) hg ht hk he g0 h2 e
        refine ⟨.dK (mkD es), (f ds.length).2, rfl, f3, en_dcG h3 (of_decide_eq_true hl) (fun i acc C' => (acc, C') = f i) f0.symm (fun i d acc C' hd hI => ?_) fun acc C' hI => ?_⟩
        · obtain ⟨G2, b, C3, a1, a2, a3, a4⟩ := f1 i d hd
          rw [← hI] at a2 a3 a4
          refine ⟨G2, b, C3, a1, a2, fun hb => (a3 hb).symm, fun hb => ?_⟩
          obtain ⟨k, e, C4, C5, a5, a6, a7⟩ := a4 hb
          exact ⟨k, e, C4, C5, a5, a6, a7.symm⟩
        · rw [← hI] at f2 ⊢
          exact ⟨f2, rfl⟩
      · trivial
    · trivial
  | ex e S1 => exact fun ⟨C', q1, q2⟩ => ⟨C', q1, fun σ H F s Q q => q2 σ H F s _ q⟩
  | bad => exact fun _ => trivial
end
end Mr
end

section
set_option maxRecDepth 100000
set_option maxHeartbeats 4000000
/-! Mr5: what is walked, slices, attributes, items, dicts, stores, mutating methods. -/
namespace Mr
open PySem L2 Dm

section
variable {K : PySem.W.Frag} {W : WX} {P : List (Nat × Addr)} {ρ ρ' : List Addr} {Γ Γ' : MEnv} {S S1 T : Store} {G : Gam} {C C0 C1 C2 R : Cells} {te ta tb tc to ti td ty tv : TE} {tt tu : TT} {m ma mb mo mi mv : ME} {c c' : Cell} {mc : MCell} {d d' : Dat} {x : Val} {i k0 : Nat} {L L' : Cells} {as : List Addr} {F H : Hp} {v : V} {ds : List Dat} {a : Addr}

/-! ### looking at a value -/
theorem vw_lst (l : Le F H) (s : CSat K C H F) (h : Vw K C F (.lst ds) v) : ∃ a us, v = .ref a ∧ H a = some (.lst us) ∧ Reps K F ds us := by
  rcases h with h | ⟨a, c, rfl, hm, hc⟩
  · obtain ⟨a, us, rfl, h1, h2⟩ := rep_lst.1 h
    exact ⟨a, us, rfl, l.lst h1, h2⟩
  · cases c with
    | lst es =>
      cases hc
      obtain ⟨_, o, h1, us, rfl, h2⟩ := s.at_ _ _ hm
      exact ⟨a, us, rfl, h1, h2⟩
    | _ => cases hc
theorem vw_tup (l : Le F H) (s : CSat K C H F) (h : Vw K C F (.tup ds) v) : ∃ a us, v = .ref a ∧ H a = some (.tup us) ∧ Reps K F ds us := by
  rcases h with h | ⟨a, c, rfl, hm, hc⟩
  · obtain ⟨a, us, rfl, h1, h2⟩ := rep_tup.1 h
    exact ⟨a, us, rfl, l.tup h1, h2⟩
  · cases c <;> cases hc
theorem vw_dK {kvs : List (Key × Dat)} (l : Le F H) (s : CSat K C H F) (h : Vw K C F (.dK kvs) v) : ∃ a us, v = .ref a ∧ Rd H a (.dK us) ∧ RepK K F kvs us := by
  rcases h with h | ⟨a, c, rfl, hm, hc⟩
  · obtain ⟨a, us, rfl, h1, h2⟩ := rep_dK.1 h
    exact ⟨a, us, rfl, l.dK h1, h2⟩
  · cases c with
    | dK es =>
      cases hc
      obtain ⟨_, o, h1, us, rfl, h2⟩ := s.at_ _ _ hm
      exact ⟨a, us, rfl, .inl h1, h2⟩
    | _ => cases hc
theorem vw_ins {n : Str} {fs : List (Str × Dat)} (l : Le F H) (s : CSat K C H F) (h : Vw K C F (.ins n fs) v) : ∃ a dx us, v = .ref a ∧ H a = some (.ins (clOf K n) dx us) ∧ RepF K F fs us ∧ hasCls K n := by
  rcases h with h | ⟨a, c, rfl, hm, hc⟩
  · obtain ⟨hc, a, dx, us, rfl, h1, h2⟩ := rep_insC.1 h
    exact ⟨a, dx, us, rfl, l.ins h1, h2, hc⟩
  · cases c with
    | ins n' es =>
      cases hc
      obtain ⟨_, o, h1, dx, us, rfl, h2, h3⟩ := s.at_ _ _ hm
      exact ⟨a, dx, us, rfl, h1, h2, h3⟩
    | _ => cases hc
theorem vw_v {x : V} (h : Vw K C F (.v x) v) : v = x := by
  rcases h with h | ⟨a, c, rfl, hm, hc⟩
  · exact rep_v.1 h
  · cases c <;> cases hc
theorem vw_scr {ns : List Int} (l : Le F H) (h : Vw K C F (.scr ns) v) : ∃ a, v = .ref a ∧ SqL K H a (ns.map V.int) := by
  rcases h with h | ⟨a, c, rfl, hm, hc⟩
  · obtain ⟨a, rfl, h1⟩ := rep_scr.1 h
    exact ⟨a, rfl, l.sqL h1⟩
  · cases c <;> cases hc
theorem vw_glb {n : Str} (h : Vw K C F (.glb n) v) : v = .ref (clOf K n) ∧ hasCls K n := by
  rcases h with h | ⟨a, c, rfl, hm, hc⟩
  · exact rep_glb.1 h
  · cases c <;> cases hc
theorem vws1 {vs : List V} (h : Vws K C F [d] vs) : ∃ v, vs = [v] ∧ Vw K C F d v := by
  cases h with
  | cons h t => cases t; exact ⟨_, rfl, h⟩
theorem vws2 {vs : List V} (h : Vws K C F [d, d'] vs) : ∃ v w, vs = [v, w] ∧ Vw K C F d v ∧ Vw K C F d' w := by
  cases h with
  | cons h t =>
    obtain ⟨w, rfl, h2⟩ := vws1 t
    exact ⟨_, w, rfl, h, h2⟩

/-! ### what is walked -/
def itA (f : List Dat → Option (List Dat)) (ms : List ME) : MI := fun Γ S => match argsP ms Γ S with
  | .ok ds S1 => match f ds with
    | some es => .ok es S1
    | none => .bad
  | .ex e S1 => .ex e S1
  | .bad => .bad
def itX (f : Dat → Option (List Dat)) (m : ME) : MI := fun Γ S => match (m Γ S).pure with
  | .d d S1 => match f d with
    | some es => .ok es S1
    | none => .bad
  | .ex e S1 => .ex e S1
  | .bad => .bad
theorem im_args {wi : TI} {ta : TA} {f : List Dat → Option (List Dat)} {ms : List ME} (hf : ∀ ds es G C C1, f ds = some es → EvA K ta G C ds C1 → EvI K wi G C es C1) (hx : ∀ G C e C1, EvAX K W ta G C e C1 → EvIX K W wi G C e C1) (h : AMP K W P ta ms) : IM K W P wi (itA f ms) := fun ρ Γ S G C g s => by
  have h0 := h ρ Γ S G C g s
  unfold itA
  revert h0
  cases argsP ms Γ S with
  | ok ds S1 =>
    intro ⟨C1, h2, h3⟩
    dsimp only
    split
    · rename_i es e
      exact ⟨C1, h2, hf _ _ _ _ _ e h3⟩
    · trivial
  | ex e S1 => exact fun ⟨C1, h2, h3⟩ => ⟨C1, h2, hx _ _ _ _ h3⟩
  | bad => exact fun _ => trivial
theorem im_x {wi : TI} {f : Dat → Option (List Dat)} (hf : ∀ d es G C C1, f d = some es → Ev K te G C d C1 → EvI K wi G C es C1) (hx : ∀ G C e C1, EvX K W te G C e C1 → EvIX K W wi G C e C1) (h : EM K W P te m) : IM K W P wi (itX f m) := fun ρ Γ S G C g s => by
  have h0 := pure_ok (h ρ Γ S G C g s)
  unfold itX
  revert h0
  cases (m Γ S).pure with
  | d d S1 =>
    intro ⟨C1, h2, h3⟩
    dsimp only
    split
    · rename_i es e
      exact ⟨C1, h2, hf _ _ _ _ _ e h3⟩
    · trivial
  | ex e S1 => exact fun ⟨C1, h2, h3⟩ => ⟨C1, h2, hx _ _ _ _ h3⟩
  | bad => exact fun _ => trivial
def fList : Dat → Option (List Dat)
  | .lst ds => some ds
  | _ => none
def fTup : Dat → Option (List Dat)
  | .tup ds => some ds
  | _ => none
def fStr : Dat → Option (List Dat)
  | .v (.str z) => some (sgD z)
  | _ => none
def fKeys : Dat → Option (List Dat)
  | .dK kvs => some (kvs.map fun p => kD p.1)
  | _ => none
def fVals : Dat → Option (List Dat)
  | .dK kvs => some (kvs.map (·.2))
  | _ => none
def fItems : Dat → Option (List Dat)
  | .dK kvs => some (kvs.map fun p => .tup [kD p.1, p.2])
  | _ => none
def fRng1 : List Dat → Option (List Dat)
  | [.v (.int n)] => match decide (-100000 ≤ n) && decide (n ≤ 100000) with
    | true => some (rgD 0 n.toNat)
    | false => none
  | _ => none
def fRng2 : List Dat → Option (List Dat)
  | [.v (.int a), .v (.int b)] => match decide (-100000 ≤ a) && decide (a ≤ 100000) && decide (-100000 ≤ b) && decide (b ≤ 100000) with
    | true => some (rgD a (b - a).toNat)
    | false => none
  | _ => none
def fEnum : List Dat → Option (List Dat)
  | [.lst ds] => some (enD ds)
  | _ => none
def fZip : List Dat → Option (List Dat)
  | [.lst ds, .lst es] => some (zpD ds es)
  | _ => none
theorem im_list (h : EM K W P te m) : IM K W P (iList K te) (itX fList m) := im_x (fun d es G C C1 e h => by
  unfold fList at e
  split at e
  · cases e; exact ei_list h
  · cases e) (fun G C e C1 h σ H F s R q => h σ H F s _ q) h
theorem im_tup (h : EM K W P te m) : IM K W P (iTup K te) (itX fTup m) := im_x (fun d es G C C1 e h => by
  unfold fTup at e
  split at e
  · cases e; exact ei_tup h
  · cases e) (fun G C e C1 h σ H F s R q => h σ H F s _ q) h
theorem im_str (h : EM K W P te m) : IM K W P (iStr te) (itX fStr m) := im_x (fun d es G C C1 e h => by
  unfold fStr at e
  split at e
  · cases e; exact ei_str h
  · cases e) (fun G C e C1 h σ H F s R q => h σ H F s _ q) h
theorem lk_x {G : Gam} {e : Exn} (h : EvX K W te G C e C1) : EvX K W (tLk te) G C e C1 := fun σ H F s Q q => h σ H F s _ q
theorem im_keys (h : EM K W P te m) : IM K W P (iKeys (tLk te)) (itX fKeys m) := im_x (te := te) (fun d es G C C1 e h => by
  unfold fKeys at e
  split at e
  · cases e; exact ei_keys h
  · cases e) (fun G C e C1 h σ H F s R q => h σ H F s _ q) h
theorem im_keysM (h : EM K W P te m) : IM K W P (iKeysM (tLk te)) (itX fKeys m) := im_x (te := te) (fun d es G C C1 e h => by
  unfold fKeys at e
  split at e
  · cases e
    rename_i kvs
    intro σ H F s R q
    refine lk_of h s _ fun a vs od H1 F1 p1 s1 hF hr hH => ?_
    have len := repK_len hr
    refine ⟨a, od, vs, rfl, hH, q _ (fun H => H a = some (.frz od (.dK vs))) H1 F1 p1 s1 ⟨keep_frz hF, fun F' H k l g i hi => ⟨g, by rw [List.length_map] at hi; omega⟩, fun F' H k l g => ⟨g, by rw [List.length_map]; omega⟩, fun F' H C k l c i x H' hi hy => ?_⟩ hH⟩
    obtain ⟨rfl, k', v', hk, rfl⟩ := hy
    obtain ⟨d, g1, g2⟩ := repK_get hr hk
    exact ⟨kD k', F', by rw [List.getElem?_map, g1] <;> rfl, Post.refl, l, c, kD_rep k'⟩
  · cases e) (fun G C e C1 h σ H F s R q => h σ H F s _ q) h
theorem im_vals (h : EM K W P te m) : IM K W P (iVals (tLk te)) (itX fVals m) := im_x (te := te) (fun d es G C C1 e h => by
  unfold fVals at e
  split at e
  · cases e; exact ei_vals h
  · cases e) (fun G C e C1 h σ H F s R q => h σ H F s _ q) h
theorem im_items (h : EM K W P te m) : IM K W P (iItems (tLk te)) (itX fItems m) := im_x (te := te) (fun d es G C C1 e h => by
  unfold fItems at e
  split at e
  · cases e; exact ei_items h
  · cases e) (fun G C e C1 h σ H F s R q => h σ H F s _ q) h
theorem im_rng1 {ta : TA} {ms : List ME} (h : AMP K W P ta ms) : IM K W P (iRng1 ta) (itA fRng1 ms) := im_args (fun ds es G C C1 e h => by
  unfold fRng1 at e
  split at e
  · split at e
    · rename_i hb
      cases e
      simp only [Bool.and_eq_true, decide_eq_true_eq] at hb
      exact ei_range1 h hb
    · cases e
  · cases e) (fun G C e C1 h σ H F s R q => h σ H F s _ q) h
theorem im_rng2 {ta : TA} {ms : List ME} (h : AMP K W P ta ms) : IM K W P (iRng2 ta) (itA fRng2 ms) := im_args (fun ds es G C C1 e h => by
  unfold fRng2 at e
  split at e
  · split at e
    · rename_i hb
      cases e
      simp only [Bool.and_eq_true, decide_eq_true_eq] at hb
      exact ei_range2 h ⟨hb.1.1.1, hb.1.1.2, hb.1.2, hb.2⟩
    · cases e
  · cases e) (fun G C e C1 h σ H F s R q => h σ H F s _ q) h
theorem im_enum {ta : TA} {ms : List ME} (h : AMP K W P ta ms) : IM K W P (iEnum K ta) (itA fEnum ms) := im_args (fun ds es G C C1 e h => by
  unfold fEnum at e
  split at e
  · cases e; exact ei_enum h
  · cases e) (fun G C e C1 h σ H F s R q => h σ H F s _ q) h
theorem im_zip {ta : TA} {ms : List ME} (h : AMP K W P ta ms) : IM K W P (iZip K ta) (itA fZip ms) := im_args (fun ds es G C C1 e h => by
  unfold fZip at e
  split at e
  · cases e; exact ei_zip h
  · cases e) (fun G C e C1 h σ H F s R q => h σ H F s _ q) h

/-! ### slices -/
inductive OR where
  | ok (o : Option Int) (S : Store)
  | ex (e : Exn) (S : Store)
  | bad
abbrev MO := MEnv → Store → OR
def EvOX (K : PySem.W.Frag) (W : WX) (to : TO) (Γ : Gam) (C : Cells) (x : Exn) (C' : Cells) : Prop := ∀ σ H F, Sat K Γ C σ H F → ∀ Q : Option Int → Hp → Prop,
  (∀ d C'' H' F', XSat (frH H) x C' d C'' → Post C F H C'' F' H' → Sat K Γ C'' σ H' F' → W (.ref (clOf K x.cls)) d σ H') → to σ H Q
def OOk (K : PySem.W.Frag) (W : WX) (to : TO) (G : Gam) (ρ : List Addr) (C : Cells) : OR → Prop
  | .ok o S' => ∃ C', SR ρ S' C' ∧ EvO K to G C o C'
  | .ex e S' => ∃ C', SR ρ S' C' ∧ EvOX K W to G C e C'
  | .bad => True
def OM (K : PySem.W.Frag) (W : WX) (P : List (Nat × Addr)) (to : TO) (m : MO) : Prop := ∀ ρ Γ S G C, GR P ρ Γ G → SR ρ S C → OOk K W to G ρ C (m Γ S)
def noPart : MO := fun _ S => .ok none S
def part (m : ME) : MO := fun Γ S => match m Γ S with
  | .v (.p (.v (.int i))) S1 => .ok (some i) S1
  | .ex e S1 => .ex e S1
  | _ => .bad
theorem om_none : OM K W P tNoPart noPart := fun ρ Γ S G C g s => ⟨C, s, fun σ H F s Q q => q H F Post.refl s⟩
theorem om_part (h : EM K W P te m) : OM K W P (tPart te) (part m) := fun ρ Γ S G C g s => by
  have h0 := h ρ Γ S G C g s
  unfold part
  revert h0
  cases m Γ S with
  | v x S1 =>
    cases x with
    | p d =>
      cases d with
      | v u =>
        cases u with
        | int i => exact fun ⟨d, C1, h1, h2, h3⟩ => ⟨C1, h2, fun σ H F s Q q => h3 σ H F s _ fun v H1 F1 p1 s1 r1 => ⟨i, by rw [show d = dI i from h1] at r1; exact rep_v.1 r1, q H1 F1 p1 s1⟩⟩
        | _ => exact fun _ => trivial
      | _ => exact fun _ => trivial
    | r k => exact fun _ => trivial
  | n mc S1 => exact fun _ => trivial
  | ex e S1 => exact fun ⟨C', q1, q2⟩ => ⟨C', q1, fun σ H F s Q q => q2 σ H F s _ q⟩
  | bad => exact fun _ => trivial
def slM (mx : ME) (lo hi : MO) : ME := fun Γ S => (mx Γ S).get fun x S1 => match lo Γ S1 with
  | .ok l S2 => match hi Γ S2 with
    | .ok h S3 => match rdS S3 x with
      | some (.lst ds) => .n (.lst (cutD ds l h)) S3
      | _ => .bad
    | .ex e S3 => .ex e S3
    | .bad => .bad
  | .ex e S2 => .ex e S2
  | .bad => .bad
theorem em_sl {tl th : TO} {lo hi : MO} (h : EM K W P te m) (hl : OM K W P tl lo) (hh : OM K W P th hi) : EM K W P (tSl (rSlL K) te tl th) (slM m lo hi) := fun ρ Γ S G C g s => by
  refine ex_get (te := tSl (rSlL K) te tl th) g s h (fun e C' h σ H F s Q q => h σ H F s _ q) fun x S1 d1 C1 v1 s1 e1 => ?_
  have h1 := hl ρ Γ S1 G C1 g s1
  revert h1
  cases lo Γ S1 with
  | ok l S2 =>
    intro ⟨C2, s2, e2⟩
    dsimp only
    have h2 := hh ρ Γ S2 G C2 g s2
    revert h2
    cases hi Γ S2 with
    | ok u S3 =>
      intro ⟨C3, s3, e3⟩
      dsimp only
      split
      · rename_i ds hd
        refine ⟨.lst (cutD ds l u), C3, rfl, s3, fun σ H F s Q q => e1 σ H F s _ fun v H1 F1 p1 t1 r1 => e2 σ H1 F1 t1 _ fun H2 F2 p2 t2 => e3 σ H2 F2 t2 _ fun H3 F3 p3 t3 => ?_⟩
        obtain ⟨a, us, rfl, g1, g2⟩ := vw_lst t3.le t3.cel (vw_of v1 s3 hd (r1.kx (p2.kx.trans p3.kx)))
        refine ⟨a, us, rfl, SqL.of g1, fun p hp => ?_⟩
        obtain ⟨p4, l4, c4⟩ := post_new (c := .lst (cutD ds l u)) (o := .lst (cutV us l u)) t3.le t3.cel hp ⟨_, rfl, by
          unfold cutD cutV
          rw [reps_len g2]
          exact reps_take _ (reps_drop _ g2)⟩
        exact q p _ F3 (((p1.trans p2).trans p3).trans p4) ⟨l4, t3.gam, c4⟩ (((p1.trans p2).trans p3).st _ hp)
      · trivial
    | ex e S3 => exact fun ⟨C3, s3, e3⟩ => ⟨C3, s3, fun σ H F s Q q => e1 σ H F s _ fun v H1 F1 p1 t1 r1 => e2 σ H1 F1 t1 _ fun H2 F2 p2 t2 => e3 σ H2 F2 t2 _ fun d C4 H3 F3 z p3 t3 => q d C4 H3 F3 (z.st (p1.trans p2)) ((p1.trans p2).trans p3) t3⟩
    | bad => exact fun _ => trivial
  | ex e S2 => exact fun ⟨C2, s2, e2⟩ => ⟨C2, s2, fun σ H F s Q q => e1 σ H F s _ fun v H1 F1 p1 t1 r1 => e2 σ H1 F1 t1 _ fun d C4 H3 F3 z p3 t3 => q d C4 H3 F3 (z.st p1) (p1.trans p3) t3⟩
  | bad => exact fun _ => trivial
def revM (mx : ME) : ME := fun Γ S => (mx Γ S).get fun x S1 => match rdS S1 x with
  | some (.lst ds) => .n (.lst ds.reverse) S1
  | _ => .bad
theorem em_rev (h : EM K W P te m) : EM K W P (tRevL K te) (revM m) := fun ρ Γ S G C g s => by
  refine ex_get (te := tRevL K te) g s h (fun e C' h σ H F s Q q => h σ H F s _ q) fun x S1 d1 C1 v1 s1 e1 => ?_
  split
  · rename_i ds hd
    refine ⟨.lst ds.reverse, C1, rfl, s1, fun σ H F s Q q => e1 σ H F s _ fun v H1 F1 p1 t1 r1 => ?_⟩
    obtain ⟨a, us, rfl, g1, g2⟩ := vw_lst t1.le t1.cel (vw_of v1 s1 hd r1)
    refine ⟨a, us, rfl, SqL.of g1, fun p hp => ?_⟩
    obtain ⟨p4, l4, c4⟩ := post_new (c := .lst ds.reverse) (o := .lst us.reverse) t1.le t1.cel hp ⟨_, rfl, reps_rev g2⟩
    exact q p _ F1 (p1.trans p4) ⟨l4, t1.gam, c4⟩ (p1.st _ hp)
  · trivial

/-! ### attributes -/
def getF (f : Str) : List (Str × Val) → Option Val
  | [] => none
  | (g, x) :: r => match f == g with
    | true => some x
    | false => getF f r
def getFD (f : Str) : List (Str × Dat) → Option Dat
  | [] => none
  | (g, x) :: r => match f == g with
    | true => some x
    | false => getFD f r
theorem getFD_look {f : Str} : ∀ {fs : List (Str × Dat)}, getFD f fs = fs.lookup f
  | [] => rfl
  | (g, x) :: r => by
    rw [getFD, List.lookup_cons, getFD_look] <;> rfl
theorem getF_look {f : Str} {fs : List (Str × Val)} {gs : List (Str × Dat)} (h : FR ρ fs gs) (e : getF f fs = some x) : ∃ d, gs.lookup f = some d ∧ VR ρ x d := by
  induction h with
  | nil => cases e
  | cons h t ih =>
    simp only [getF] at e
    rw [List.lookup_cons]
    split at e
    · rename_i q; cases e; rw [q]; exact ⟨_, rfl, h⟩
    · rename_i q; rw [q]; exact ih e
/-- the attribute f of x, an instance of cn -/
def fldV (cn f : Str) (S : Store) : Val → Option Val
  | .p (.ins c fs) => match decide (c = cn) with
    | true => match getFD f fs with
      | some d => some (.p d)
      | none => none
    | false => none
  | .r k => match S[k]? with
    | some (.ins c fs) => match decide (c = cn) with
      | true => getF f fs
      | false => none
    | _ => none
  | _ => none
def fldM (cn f : Str) (mo : ME) : ME := fun Γ S => (mo Γ S).get fun x S1 => match fldV cn f S1 x with
  | some y => .v y S1
  | none => .bad
theorem em_fld {cn f : Str} {Cc : Addr} (hc : clOf K cn = Cc) (hl : Cls K Cc) (hn : NoAttr K Cc f) (h : EM K W P to mo) : EM K W P (tFld K to f) (fldM cn f mo) := fun ρ Γ S G C g s => by
  subst hc
  refine ex_get (te := tFld K to f) g s h (fun e C' h σ H F s Q q => h σ H F s _ q) fun x S1 d1 C1 v1 s1 e1 => ?_
  split
  · rename_i y hy
    unfold fldV at hy
    split at hy
    · rename_i c fs
      split at hy
      · rename_i hcn
        obtain rfl := of_decide_eq_true hcn
        split at hy
        · rename_i d hd
          cases hy
          obtain rfl : d1 = .ins c fs := v1
          refine ⟨d, C1, rfl, s1, fun σ H F s Q q => e1 σ H F s _ fun v H1 F1 p1 t1 r1 => ?_⟩
          obtain ⟨a, dx, vs, rfl, h1, h2⟩ := rep_ins r1
          rw [getFD_look] at hd
          obtain ⟨v, h3, h4⟩ := repF_get h2 hd
          exact ⟨a, _, dx, vs, v, rfl, t1.le.ins h1, hl, hn, h3, q v H1 F1 p1 t1 h4⟩
        · cases hy
      · cases hy
    · rename_i k
      split at hy
      · rename_i c fs em
        split at hy
        · rename_i hcn
          obtain rfl := of_decide_eq_true hcn
          obtain ⟨a, ha, rfl⟩ := v1
          obtain ⟨a', c', R, q1, ⟨gs, rfl, q2⟩, q3, _⟩ := s1.get em (by intro z; cases z)
          rw [ha] at q1
          cases q1
          obtain ⟨d, hd, hv⟩ := getF_look q2 hy
          refine ⟨d, C1, hv, s1, fun σ H F s Q q => e1 σ H F s _ fun v H1 F1 p1 t1 r1 => ?_⟩
          obtain ⟨_, o, h1, dx, vs, rfl, h2, _⟩ := t1.cel.at_ _ _ (q3.symm.subset List.mem_cons_self)
          obtain ⟨v, h3, h4⟩ := repF_get h2 hd
          exact ⟨a, _, dx, vs, v, rep_v.1 r1, h1, hl, hn, h3, q v H1 F1 p1 t1 h4⟩
        · cases hy
      · cases hy
    · cases hy
  · trivial
def putFV (f : Str) (v : Val) : List (Str × Val) → List (Str × Val)
  | [] => [(f, v)]
  | (g, x) :: r => match decide (g = f) with
    | true => (g, v) :: r
    | false => (g, x) :: putFV f v r
theorem putFV_fr {f : Str} (h : VR ρ x d) {fs : List (Str × Val)} {gs : List (Str × Dat)} (t : FR ρ fs gs) : FR ρ (putFV f x fs) (putD f d gs) := by
  induction t with
  | nil => exact .cons h .nil
  | @cons g y e fs gs h1 t ih =>
    simp only [putFV, putD]
    by_cases q : g = f
    · rw [decide_eq_true q, if_pos q]
      exact .cons h t
    · rw [decide_eq_false q, if_neg q]
      exact .cons h1 ih
theorem post_writeP {a : Addr} {c c' : Cell} {o : HO} {C R : Cells} {F H : Hp} (hp : C.Perm ((a, c) :: R)) (l : Le F H) (s : CSat K C H F) (h : CRep K F c' o) : Post C F H ((a, c') :: R) F (upd H a o) ∧ Le F (upd H a o) ∧ CSat K ((a, c') :: R) (upd H a o) F := by
  obtain ⟨p, l2, c2⟩ := post_write (Pick.head (x := (a, c)) (R := R)) l (s.perm hp) h
  refine ⟨⟨p.kx, fun b u m e => p.keep b u (fun z => m ((hp.map (·.1)).symm.subset z)) e, fun b m => p.nw b (fun z => m ((hp.map (·.1)).symm.subset z)), fun b m => ?_, p.st⟩, l2, c2⟩
  rcases p.new b m with z | z
  · exact .inl ((hp.map (·.1)).symm.subset z)
  · exact .inr z
/-- o.f = e -/
def fldS (cn f : Str) (mo mv : ME) : MS := fun Γ S => match (mv Γ S).val with
  | .v y S1 => match mo Γ S1 with
    | .v (.r k) S2 => match S2[k]? with
      | some (.ins c fs) => match decide (c = cn) && decide (fs.length ≤ 900) with
        | true => .nx Γ (S2.set k (.ins c (putFV f y fs)))
        | false => .bad
      | _ => .bad
    | _ => .bad
  | .ex e S1 => .ex e Γ S1
  | .bad => .bad
theorem FR.len {fs : List (Str × Val)} {gs : List (Str × Dat)} (t : FR ρ fs gs) : fs.length = gs.length := by
  induction t with
  | nil => rfl
  | cons h t ih => simp [ih]
theorem rm_fldS {cn f : Str} {Cc : Addr} (hc : clOf K cn = Cc) (hl : Cls K Cc) (hn : NoAttr K Cc f) (hv : EM K W P tv mv) (ho : EM K W P to mo) : RM K W P k0 (sFld K to tv f) (fldS cn f mo mv) := fun ρ Γ S G C e B g s o hr => by
  subst hc
  have h0 := val_ok (hv ρ Γ S G C g s)
  unfold fldS at hr
  revert h0 hr
  cases (mv Γ S).val with
  | v y S1 =>
    intro hr ⟨d, C1, h1, h2, h3⟩
    dsimp only at hr
    have h4 := ho ρ Γ S1 G C1 g h2
    revert hr h4
    cases mo Γ S1 with
    | v z S2 =>
      cases z with
      | p d => exact fun hr => hr.elim
      | r k =>
        intro hr ⟨d2, C2, hv2, s2, e2⟩
        obtain ⟨a, ha, rfl⟩ := hv2
        dsimp only at hr
        split at hr
        · rename_i c fs em
          split at hr
          · rename_i hb
            simp only [Bool.and_eq_true, decide_eq_true_eq] at hb
            obtain ⟨rfl, hb⟩ := hb
            obtain ⟨a', c', R, q1, ⟨gs, rfl, q2⟩, q3, q4, _⟩ := s2.get em (by intro z; cases z)
            rw [ha] at q1
            cases q1
            intro σ H D ⟨F, q⟩ E
            refine h3 σ H F q.sa _ fun v H1 F1 p1 t1 r1 => e2 σ H1 F1 t1 _ fun w H2 F2 p2 t2 r2 => ?_
            obtain rfl := rep_v.1 r2
            obtain ⟨_, o', g1, dx, vs, rfl, g2, g3⟩ := t2.cel.at_ _ _ (q3.symm.subset List.mem_cons_self)
            have hln := repF_len g2
            have hln2 := q2.len
            obtain ⟨p3, l3, c3⟩ := post_writeP (c' := .ins c (putD f d gs)) (o := .ins (clOf K c) dx (putF f v vs)) q3 t2.le t2.cel ⟨dx, _, rfl, putD_rep (r1.kx p2.kx) g2, g3⟩
            exact ⟨a, _, dx, vs, rfl, g1, hl, hn, by omega, E.nx _ _ _ _ (hr ρ G _ (preR ρ) o g (q4 _ _ ⟨_, rfl, putFV_fr h1 q2⟩)) ⟨F2, q.step ((p1.trans p2).trans p3) ⟨l3, t2.gam, c3⟩⟩⟩
          · exact hr.elim
        · exact hr.elim
    | n mc S2 => exact fun hr => hr.elim
    | ex e' S2 => exact fun hr => hr.elim
    | bad => exact fun hr => hr.elim
  | ex e' S1 =>
    intro hr ⟨C1, h2, h3⟩
    exact fun σ H D ⟨F, q⟩ E => h3 σ H F q.sa _ fun dd C2 H1 F1 z1 p1 s1 => E.xc _ _ _ _ _ _ _ _ (hr ρ _ _ (preR ρ) o g h2) (z1.np q.po) (q.step p1 s1)
  | bad => exact fun hr => hr.elim

/-! ### items of lists and dicts, stored -/
def setL (mo mi mv : ME) : MS := fun Γ S => match (mv Γ S).pure with
  | .d d S1 => match mo Γ S1 with
    | .v (.r k) S2 => match mi Γ S2 with
      | .v (.p (.v (.int i))) S3 => match S3[k]? with
        | some (.lst ds) => match ixN ds.length i with
          | some j => .nx Γ (S3.set k (.lst (ds.set j d)))
          | none => .bad
        | _ => .bad
      | _ => .bad
    | _ => .bad
  | .ex e S1 => .ex e Γ S1
  | .bad => .bad
theorem reps_set {j : Nat} {v : V} (hd : Rep K F d v) : ∀ {j : Nat} {ds : List Dat} {us : List V}, Reps K F ds us → Reps K F (ds.set j d) (us.set j v)
  | _, [], us, h => by rw [reps_nil.1 h]; exact reps_nil.2 rfl
  | 0, e :: ds, us, h => by
    obtain ⟨w, r, rfl, _, h2⟩ := reps_cons.1 h
    exact reps_cons.2 ⟨v, r, rfl, hd, h2⟩
  | j + 1, e :: ds, us, h => by
    obtain ⟨w, r, rfl, h1, h2⟩ := reps_cons.1 h
    exact reps_cons.2 ⟨w, _, rfl, h1, reps_set (j := j) hd h2⟩
theorem rm_setL (hv : EM K W P tv mv) (ho : EM K W P to mo) (hi : EM K W P ti mi) : RM K W P k0 (tAsg tv (gSub to ti rSetL)) (setL mo mi mv) := fun ρ Γ S G C e B g s o hr => by
  have h0 := pure_ok (hv ρ Γ S G C g s)
  unfold setL at hr
  revert h0 hr
  cases (mv Γ S).pure with
  | d d S1 =>
    intro hr ⟨C1, h2, h3⟩
    dsimp only at hr
    have h4 := ho ρ Γ S1 G C1 g h2
    revert hr h4
    cases mo Γ S1 with
    | v z S2 =>
      cases z with
      | p d => exact fun hr => hr.elim
      | r k =>
        intro hr ⟨d2, C2, hv2, s2, e2⟩
        obtain ⟨a, ha, rfl⟩ := hv2
        dsimp only at hr
        have h5 := hi ρ Γ S2 G C2 g s2
        split at hr
        · rename_i i S3 e3
          rw [e3] at h5
          obtain ⟨d3, C3, h6, s3, e3'⟩ := h5
          obtain rfl : d3 = dI i := h6
          split at hr
          · rename_i ds em
            split at hr
            · rename_i j hj
              obtain ⟨a', c', R, q1, q2, q3, q4, _⟩ := s3.get em (by intro z; cases z)
              obtain rfl : c' = .lst ds := q2
              rw [ha] at q1
              cases q1
              intro σ H D ⟨F, q⟩ E
              refine h3 σ H F q.sa _ fun v H1 F1 p1 t1 r1 => e2 σ H1 F1 t1 _ fun w H2 F2 p2 t2 r2 => e3' σ H2 F2 t2 _ fun y H3 F3 p3 t3 r3 => ?_
              obtain rfl := rep_v.1 r2
              obtain rfl := rep_v.1 r3
              obtain ⟨_, o', g1, us, rfl, g2⟩ := t3.cel.at_ _ _ (q3.symm.subset List.mem_cons_self)
              obtain ⟨p4, l4, c4⟩ := post_writeP (c' := .lst (ds.set j d)) (o := .lst (us.set j v)) q3 t3.le t3.cel ⟨_, rfl, reps_set (j := j) (v := v) ((r1.kx p2.kx).kx p3.kx) g2⟩
              exact ⟨a, us, i, j, rfl, rfl, g1, by rw [← reps_len g2]; exact hj, E.nx _ _ _ _ (hr ρ G _ (preR ρ) o g (q4 _ _ rfl)) ⟨F3, q.step (((p1.trans p2).trans p3).trans p4) ⟨l4, t3.gam, c4⟩⟩⟩
            · exact hr.elim
          · exact hr.elim
        · exact hr.elim
    | n mc S2 => exact fun hr => hr.elim
    | ex e' S2 => exact fun hr => hr.elim
    | bad => exact fun hr => hr.elim
  | ex e' S1 => exact fun hr ⟨C1, h2, h3⟩ => r_asgX h3 (hr ρ _ _ (preR ρ) o g h2)
  | bad => exact fun hr => hr.elim
/-- d[k] = e -/
def setD (mo mi mv : ME) : MS := fun Γ S => match (mv Γ S).pure with
  | .d d S1 => match mo Γ S1 with
    | .v (.r k) S2 => match mi Γ S2 with
      | .v (.p y) S3 => match keyOf y with
        | some key => match S3[k]? with
          | some (.dK kvs) => match decide (kvs.length < 100000) with
            | true => .nx Γ (S3.set k (.dK (putKD kvs key d)))
            | false => .bad
          | _ => .bad
        | none => .bad
      | _ => .bad
    | _ => .bad
  | .ex e S1 => .ex e Γ S1
  | .bad => .bad
theorem kD_v {k : Key} {v : V} (h : Rep K F (kD k) v) : v = kV k := by
  cases k <;> exact rep_v.1 h
theorem rm_setD (hv : EM K W P tv mv) (ho : EM K W P td mo) (hi : EM K W P ty mi) : RM K W P k0 (sDPut td ty tv) (setD mo mi mv) := fun ρ Γ S G C e B g s o hr => by
  have h0 := pure_ok (hv ρ Γ S G C g s)
  unfold setD at hr
  revert h0 hr
  cases (mv Γ S).pure with
  | d d S1 =>
    intro hr ⟨C1, h2, h3⟩
    dsimp only at hr
    have h4 := ho ρ Γ S1 G C1 g h2
    revert hr h4
    cases mo Γ S1 with
    | v z S2 =>
      cases z with
      | p d => exact fun hr => hr.elim
      | r k =>
        intro hr ⟨d2, C2, hv2, s2, e2⟩
        obtain ⟨a, ha, rfl⟩ := hv2
        dsimp only at hr
        have h5 := hi ρ Γ S2 G C2 g s2
        split at hr
        · rename_i y S3 e3
          rw [e3] at h5
          obtain ⟨d3, C3, h6, s3, e3'⟩ := h5
          obtain rfl : d3 = y := h6
          split at hr
          · rename_i key hk
            obtain rfl := keyOf_kD hk
            split at hr
            · rename_i kvs em
              split at hr
              · rename_i hl
                have hl := of_decide_eq_true hl
                obtain ⟨a', c', R, q1, q2, q3, q4, _⟩ := s3.get em (by intro z; cases z)
                obtain rfl : c' = .dK kvs := q2
                rw [ha] at q1
                cases q1
                intro σ H D ⟨F, q⟩ E
                refine h3 σ H F q.sa _ fun v H1 F1 p1 t1 r1 => e2 σ H1 F1 t1 _ fun w H2 F2 p2 t2 r2 => e3' σ H2 F2 t2 _ fun y H3 F3 p3 t3 r3 => ?_
                obtain rfl := rep_v.1 r2
                obtain rfl := kD_v r3
                obtain ⟨_, o', g1, us, rfl, g2⟩ := t3.cel.at_ _ _ (q3.symm.subset List.mem_cons_self)
                obtain ⟨p4, l4, c4⟩ := post_writeP (c' := .dK (putKD kvs key d)) (o := .dK (putK us key v)) q3 t3.le t3.cel ⟨_, rfl, repK_put ((r1.kx p2.kx).kx p3.kx) g2⟩
                exact ⟨a, _, rfl, DPut.k g1 (by rw [← repK_len g2, sizeLine_eq]; omega), E.nx _ _ _ _ (hr ρ G _ (preR ρ) o g (q4 _ _ rfl)) ⟨F3, q.step (((p1.trans p2).trans p3).trans p4) ⟨l4, t3.gam, c4⟩⟩⟩
              · exact hr.elim
            · exact hr.elim
          · exact hr.elim
        · exact hr.elim
    | n mc S2 => exact fun hr => hr.elim
    | ex e' S2 => exact fun hr => hr.elim
    | bad => exact fun hr => hr.elim
  | ex e' S1 =>
    intro hr ⟨C1, h2, h3⟩
    exact fun σ H D ⟨F, q⟩ E => h3 σ H F q.sa _ fun dd C2 H1 F1 z1 p1 s1 => E.xc _ _ _ _ _ _ _ _ (hr ρ _ _ (preR ρ) o g h2) (z1.np q.po) (q.step p1 s1)
  | bad => exact fun hr => hr.elim

/-! ### dicts, read -/
def lookK (kvs : List (Key × Dat)) (k : Key) : Option Dat := (kvs.find? fun kv => decide (kv.1 = k)).map (·.2)
theorem repK_find {F : Hp} {k : Key} : ∀ {kvs : List (Key × Dat)} {us : List (Key × V)}, RepK K F kvs us → (∀ d, lookK kvs k = some d → ∃ v, valV us k = some v ∧ Rep K F d v) ∧ (lookK kvs k = none → valV us k = none)
  | [], us, h => by
    rw [repK_nil.1 h]
    exact ⟨(fun d e => by cases e), fun _ => rfl⟩
  | (k', d') :: kvs, us, h => by
    obtain ⟨v, r, rfl, h1, h2⟩ := repK_cons.1 h
    unfold lookK valV
    rw [List.find?_cons, List.find?_cons]
    dsimp only
    by_cases q : k' = k
    · rw [decide_eq_true q]
      exact ⟨(fun d e => by cases e; exact ⟨v, rfl, h1⟩), fun e => by cases e⟩
    · rw [decide_eq_false q]
      exact repK_find h2
def dgetM (md mk : ME) : ME := fun Γ S => (md Γ S).get fun x S1 => (mk Γ S1).get fun y S2 => match rdS S2 x, rdS S2 y with
  | some (.dK kvs), some kd => match keyOf kd with
    | some k => match lookK kvs k with
      | some d => .v (.p d) S2
      | none => .bad
    | none => .bad
  | _, _ => .bad
theorem em_dget (hd : EM K W P td ma) (hk : EM K W P ty mb) : EM K W P (tDGet td ty) (dgetM ma mb) := fun ρ Γ S G C g s => by
  refine ex_get (te := tDGet td ty) g s hd (fun e C' h σ H F s Q q => h σ H F s _ q) fun x S1 d1 C1 v1 s1 e1 => ?_
  refine ex_get (te := tDGet td ty) g s1 hk (fun e C' h σ H F s Q q => e1 σ H F s _ fun v H1 F1 p1 s1 r1 => h σ H1 F1 s1 _ fun d C3 H2 F2 z p2 s2 => q d C3 H2 F2 (z.st p1) (p1.trans p2) s2) fun y S2 d2 C2 v2 s2 e2 => ?_
  split
  · rename_i kvs kd h1 h2
    split
    · rename_i k hk
      obtain rfl := keyOf_kD hk
      split
      · rename_i d hl
        refine ⟨d, C2, rfl, s2, fun σ H F s Q q => e1 σ H F s _ fun v H1 F1 p1 t1 r1 => e2 σ H1 F1 t1 _ fun w H2 F2 p2 t2 r2 => ?_⟩
        obtain ⟨a, us, rfl, g1, g2⟩ := vw_dK t2.le t2.cel (vw_of v1 s2 h1 (r1.kx p2.kx))
        obtain ⟨v, g3, g4⟩ := (repK_find g2).1 d hl
        have hw : w = kV k := by
          have := vw_of v2 s2 h2 r2
          cases k <;> exact vw_v this
        exact ⟨a, v, rfl, .inl ⟨us, k, g1, hw, g3.symm⟩, q v H2 F2 (p1.trans p2) t2 g4⟩
      · trivial
    · trivial
  · trivial
def dinM (neg : Bool) (mk md : ME) : ME := fun Γ S => (mk Γ S).get fun y S1 => (md Γ S1).get fun x S2 => match rdS S2 x, rdS S2 y with
  | some (.dK kvs), some kd => match keyOf kd with
    | some k => .v (.p (dB (if neg then !(lookK kvs k).isSome else (lookK kvs k).isSome))) S2
    | none => .bad
  | _, _ => .bad
theorem din_aux {te : TE} {neg : Bool} (hk : EM K W P ty mb) (hd : EM K W P td ma)
    (hq : ∀ σ H Q, (ty σ H fun y H1 => td σ H1 fun x H2 => ∃ a o, x = .ref a ∧ DGet H2 a y o ∧ Q (.bl (if neg then !o.isSome else o.isSome)) H2) → te σ H Q) (hx : ∀ G C e C1, EvX K W ty G C e C1 → EvX K W te G C e C1)
    (hx2 : ∀ G C d C1 e C2, Ev K ty G C d C1 → EvX K W td G C1 e C2 → EvX K W te G C e C2) : EM K W P te (dinM neg mb ma) := fun ρ Γ S G C g s => by
  refine ex_get (te := te) g s hk (fun e C' h => hx _ _ _ _ h) fun y S1 d1 C1 v1 s1 e1 => ?_
  refine ex_get (te := te) g s1 hd (fun e C' h => hx2 _ _ _ _ _ _ e1 h) fun x S2 d2 C2 v2 s2 e2 => ?_
  split
  · rename_i kvs kd h1 h2
    split
    · rename_i k hk
      obtain rfl := keyOf_kD hk
      refine ⟨_, C2, rfl, s2, fun σ H F s Q q => hq σ H Q (e1 σ H F s _ fun w H1 F1 p1 t1 r1 => e2 σ H1 F1 t1 _ fun v H2 F2 p2 t2 r2 => ?_)⟩
      obtain ⟨a, us, rfl, g1, g2⟩ := vw_dK t2.le t2.cel (vw_of v2 s2 h1 r2)
      have hw : w = kV k := by
        have := vw_of v1 s2 h2 (r1.kx p2.kx)
        cases k <;> exact vw_v this
      have hs : (valV us k).isSome = (lookK kvs k).isSome := by
        cases e : lookK kvs k with
        | none => rw [(repK_find g2).2 e] <;> rfl
        | some d => obtain ⟨v, g3, _⟩ := (repK_find g2).1 d e; rw [g3] <;> rfl
      exact ⟨a, valV us k, rfl, .inl ⟨us, k, g1, hw, rfl⟩, q _ H2 F2 (p1.trans p2) t2 (rep_v.2 (by rw [hs]))⟩
    · trivial
  · trivial
theorem em_din (hk : EM K W P ty mb) (hd : EM K W P td ma) : EM K W P (tDIn ty td) (dinM false mb ma) := din_aux hk hd (fun σ H Q h => h) (fun G C e C1 h σ H F s Q q => h σ H F s _ q)
  fun G C d C1 e C2 e1 h σ H F s Q q => e1 σ H F s _ fun v H1 F1 p1 s1 r1 => h σ H1 F1 s1 _ fun d C3 H2 F2 z p2 s2 => q d C3 H2 F2 (z.st p1) (p1.trans p2) s2
theorem em_dnin (hk : EM K W P ty mb) (hd : EM K W P td ma) : EM K W P (tDNotIn ty td) (dinM true mb ma) := din_aux hk hd (fun σ H Q h => h) (fun G C e C1 h σ H F s Q q => h σ H F s _ q)
  fun G C d C1 e C2 e1 h σ H F s Q q => e1 σ H F s _ fun v H1 F1 p1 s1 r1 => h σ H1 F1 s1 _ fun d C3 H2 F2 z p2 s2 => q d C3 H2 F2 (z.st p1) (p1.trans p2) s2

/-! ### a chain of two comparisons of ints -/
def chI (f g : Int → Int → Bool) (ma mb mc : ME) : ME := fun Γ S => (ma Γ S).get fun x S1 => (mb Γ S1).get fun y S2 => match x, y with
  | .p (.v (.int i)), .p (.v (.int j)) => match f i j with
    | true => (mc Γ S2).get fun z S3 => match z with
      | .p (.v (.int k)) => .v (.p (dB (g j k))) S3
      | _ => .bad
    | false => .v (.p (dB false)) S2
  | _, _ => .bad
theorem em_chI {f g : Int → Int → Bool} {mc : ME} (ha : EM K W P ta ma) (hb : EM K W P tb mb) (hc : EM K W P tc mc) : EM K W P (tChain (rI0 fun i j => .bl (f i j)) (rI0 fun i j => .bl (g i j)) ta tb tc) (chI f g ma mb mc) := fun ρ Γ S G C g0 s => by
  refine ex_get (te := tChain (rI0 fun i j => .bl (f i j)) (rI0 fun i j => .bl (g i j)) ta tb tc) g0 s ha (fun e C' h σ H F s Q q => h σ H F s _ q) fun x S1 d1 C1 v1 s1 e1 => ?_
  refine ex_get (te := tChain (rI0 fun i j => .bl (f i j)) (rI0 fun i j => .bl (g i j)) ta tb tc) g0 s1 hb (fun e C' h σ H F s Q q => e1 σ H F s _ fun v H1 F1 p1 s1 r1 => h σ H1 F1 s1 _ fun d C3 H2 F2 z p2 s2 => q d C3 H2 F2 (z.st p1) (p1.trans p2) s2) fun y S2 d2 C2 v2 s2 e2 => ?_
  split
  · rename_i i j
    obtain rfl : d1 = dI i := v1
    obtain rfl : d2 = dI j := v2
    cases hf : f i j with
    | true =>
      dsimp only
      refine ex_get (te := tChain (rI0 fun i j => .bl (f i j)) (rI0 fun i j => .bl (g i j)) ta tb tc) g0 s2 hc (fun e C' h σ H F s Q q => e1 σ H F s _ fun v H1 F1 p1 t1 r1 => e2 σ H1 F1 t1 _ fun w H2 F2 p2 t2 r2 => ⟨i, j, rep_v.1 r1, rep_v.1 r2, true, (by show V.bl (f i j) = _; rw [hf]), h σ H2 F2 t2 _ fun d C3 H3 F3 z p3 t3 => q d C3 H3 F3 (z.st (p1.trans p2)) ((p1.trans p2).trans p3) t3⟩) fun z S3 d3 C3 v3 s3 e3 => ?_
      split
      · rename_i k
        obtain rfl : d3 = dI k := v3
        exact ⟨_, C3, rfl, s3, fun σ H F s Q q => e1 σ H F s _ fun v H1 F1 p1 t1 r1 => e2 σ H1 F1 t1 _ fun w H2 F2 p2 t2 r2 => ⟨i, j, rep_v.1 r1, rep_v.1 r2, true, (by show V.bl (f i j) = _; rw [hf]), e3 σ H2 F2 t2 _ fun z H3 F3 p3 t3 r3 => ⟨j, k, rep_v.1 r2, rep_v.1 r3, q _ H3 F3 ((p1.trans p2).trans p3) t3 (rep_v.2 rfl)⟩⟩⟩
      · trivial
    | false => exact ⟨_, C2, rfl, s2, fun σ H F s Q q => e1 σ H F s _ fun v H1 F1 p1 t1 r1 => e2 σ H1 F1 t1 _ fun w H2 F2 p2 t2 r2 => ⟨i, j, rep_v.1 r1, rep_v.1 r2, false, (by show V.bl (f i j) = _; rw [hf]), q _ H2 F2 (p1.trans p2) t2 (rep_v.2 rfl)⟩⟩
  · trivial
end
end Mr
end

section
set_option maxRecDepth 100000
set_option maxHeartbeats 4000000
/-! Mr6: methods that change lists and dicts; operators of own classes; exceptions. -/
namespace Mr
open PySem L2 Dm

/-- what is known of the package's own classes -/
def CLS : List Str := ["Committee", "Ranking", "Turns", "Game", "Strategy", "Optimal", "Sincere", "Fixed", "Noted", "Striker", "Keeper", "Assigning", "Trial", "Room", "Console"]
def SUBS : List Str := ["Optimal", "Sincere", "Fixed", "Noted", "Striker", "Keeper"]
def isSub (c d : Str) : Bool := decide (c = d) || (decide (d = "Strategy") && decide (c ∈ SUBS))
def TYS : List String := ["str", "list", "int", "bool", "dict", "tuple"]
def TYS7 : List String := ["NoneType", "bool", "int", "str", "list", "tuple", "dict"]
structure Tab (K : PySem.W.Frag) : Prop where
  z : Cl0 K
  own : ∀ c ∈ CLS, hasCls K c → OwnC K (clOf K c)
  ty : ∀ c ∈ CLS, hasCls K c → ∀ n ∈ TYS, PySem.W.kitOne K (.ref (clOf K c)) (.type n) = some false
  bt : ∀ c ∈ CLS, hasCls K c → ∀ n ∈ TYS7, PySem.W.kitOne K (.type n) (.ref (clOf K c)) = some false
  nf : ∀ c ∈ CLS, hasCls K c → ∀ n ∈ TYS7, PySem.W.notFirst K (clOf K c) (.type n) = true
  is : ∀ c ∈ CLS, ∀ d ∈ CLS, hasCls K c → hasCls K d → PySem.W.kitOne K (.ref (clOf K c)) (.ref (clOf K d)) = some (isSub c d)
  no : ∀ c ∈ CLS, ∀ d ∈ CLS, hasCls K c → hasCls K d → c = d ∨ isSub d c = false → PySem.W.notFirst K (clOf K c) (.ref (clOf K d)) = true

inductive Kd where
  | bt (n : String)
  | own (c : Str)
def kindD : Dat → Option Kd
  | .v .non => some (.bt "NoneType")
  | .v (.bl _) => some (.bt "bool")
  | .v (.int _) => some (.bt "int")
  | .v (.str _) => some (.bt "str")
  | .lst _ => some (.bt "list")
  | .tup _ => some (.bt "tuple")
  | .dK _ => some (.bt "dict")
  | .ins c _ => some (.own c)
  | _ => none
def kindV (S : Store) : Val → Option Kd
  | .p d => kindD d
  | .r k => match S[k]? with
    | some (.lst _) => some (.bt "list")
    | some (.dK _) => some (.bt "dict")
    | some (.ins c _) => some (.own c)
    | _ => none
def tyOf (K : PySem.W.Frag) : Kd → Value
  | .bt n => .type n
  | .own c => .ref (clOf K c)

section
variable {K : PySem.W.Frag} {W : WX} {P : List (Nat × Addr)} {ρ ρ' : List Addr} {Γ Γ' : MEnv} {S S1 T : Store} {G : Gam} {C C0 C1 C2 R : Cells} {te ta tb tc to ti td ty tv : TE} {tt tu : TT} {m ma mb mo mi mv : ME} {c c' : Cell} {mc : MCell} {d d' : Dat} {x : Val} {i k0 : Nat} {L L' : Cells} {as : List Addr} {F H : Hp} {v : V} {ds : List Dat} {a : Addr} {kd : Kd}
/-- an own class of a value is one of ours -/
def kdOk : Kd → Bool
  | .bt _ => true
  | .own c => decide (c ∈ CLS)
theorem kindD_bt {n : String} (h : kindD d = some (.bt n)) : n ∈ TYS7 := by
  unfold kindD at h
  split at h <;> first | (cases h; decide) | cases h
theorem kindV_bt {n : String} (h : kindV S x = some (.bt n)) : n ∈ TYS7 := by
  cases x with
  | p d => exact kindD_bt h
  | r k =>
    simp only [kindV] at h
    split at h <;> first | (cases h; decide) | cases h
theorem kd_d (t : Tab K) (h : kindD d = some kd) (hk : kdOk kd = true) (l : Le F H) (r : Rep K F d v) : TyX K H v (tyOf K kd) ∧ ∀ c, kd = .own c → hasCls K c := by
  unfold kindD at h
  split at h
  · cases h; rw [rep_v.1 r]; exact ⟨.base .non, fun c e => by cases e⟩
  · cases h; rw [rep_v.1 r]; exact ⟨.base (.bl _), fun c e => by cases e⟩
  · cases h; rw [rep_v.1 r]; exact ⟨.base (.int _), fun c e => by cases e⟩
  · cases h; rw [rep_v.1 r]; exact ⟨.base (.str _), fun c e => by cases e⟩
  · cases h; obtain ⟨a, vs, rfl, h1, _⟩ := rep_lst.1 r; exact ⟨.base (.lst (l.lst h1)), fun c e => by cases e⟩
  · cases h; obtain ⟨a, vs, rfl, h1, _⟩ := rep_tup.1 r; exact ⟨.base (.tup (l.tup h1)), fun c e => by cases e⟩
  · cases h
    obtain ⟨a, vs, rfl, h1, _⟩ := rep_dK.1 r
    rcases l.dK h1 with e | ⟨od, e⟩
    · exact ⟨.base (.dK e), fun c e => by cases e⟩
    · exact ⟨.fDict e, fun c e => by cases e⟩
  · cases h
    obtain ⟨hc, a, dx, vs, rfl, h1, _⟩ := rep_insC.1 r
    exact ⟨(t.own _ (of_decide_eq_true hk) hc).ty t.z (l.ins h1), fun c e => by cases e; exact hc⟩
  · cases h
theorem kd_v (t : Tab K) (h : kindV S x = some kd) (hk : kdOk kd = true) (vr : VR ρ x d) (s : SR ρ S C) (l : Le F H) (cs : CSat K C H F) (r : Rep K F d v) : TyX K H v (tyOf K kd) ∧ ∀ c, kd = .own c → hasCls K c := by
  cases x with
  | p e =>
    obtain rfl : d = e := vr
    exact kd_d t h hk l r
  | r k =>
    obtain ⟨a, ha, rfl⟩ := vr
    simp only [kindV] at h
    split at h
    · rename_i ds em
      cases h
      obtain ⟨a', c', R, q1, q2, q3, _⟩ := s.get em (by intro z; cases z)
      rw [ha] at q1
      cases q1
      obtain rfl : c' = .lst ds := q2
      obtain ⟨_, o, h1, us, rfl, _⟩ := cs.at_ _ _ (q3.symm.subset List.mem_cons_self)
      rw [rep_v.1 r]
      exact ⟨.base (.lst h1), fun c e => by cases e⟩
    · rename_i ds em
      cases h
      obtain ⟨a', c', R, q1, q2, q3, _⟩ := s.get em (by intro z; cases z)
      rw [ha] at q1
      cases q1
      obtain rfl : c' = .dK ds := q2
      obtain ⟨_, o, h1, us, rfl, _⟩ := cs.at_ _ _ (q3.symm.subset List.mem_cons_self)
      rw [rep_v.1 r]
      exact ⟨.base (.dK h1), fun c e => by cases e⟩
    · rename_i n fs em
      cases h
      obtain ⟨a', c', R, q1, ⟨gs, rfl, q2⟩, q3, _⟩ := s.get em (by intro z; cases z)
      rw [ha] at q1
      cases q1
      obtain ⟨_, o, h1, dx, us, rfl, _, hc⟩ := cs.at_ _ _ (q3.symm.subset List.mem_cons_self)
      rw [rep_v.1 r]
      exact ⟨(t.own _ (of_decide_eq_true hk) hc).ty t.z h1, fun c e => by cases e; exact hc⟩
    · cases h

/-! ### methods that change a list or a dict -/
def MtL (K : PySem.W.Frag) (r : V → List V → Hp → VK → Prop) (f : List Dat → List Dat → Option (Dat × List Dat)) : Prop := ∀ ds es d ds', f ds es = some (d, ds') → ∀ a us vs H F, Le F H → H a = some (.lst us) → Reps K F ds us → Reps K F es vs → ∃ us' v, Reps K F ds' us' ∧ Rep K F d v ∧ ∀ Q : VK, Q v (upd H a (.lst us')) → r (.ref a) vs H Q
def MtD (K : PySem.W.Frag) (r : V → List V → Hp → VK → Prop) (f : List (Key × Dat) → List Dat → Option (Dat × List (Key × Dat))) : Prop := ∀ ds es d ds', f ds es = some (d, ds') → ∀ a us vs H F, Le F H → H a = some (.dK us) → RepK K F ds us → Reps K F es vs → ∃ us' v, RepK K F ds' us' ∧ Rep K F d v ∧ ∀ Q : VK, Q v (upd H a (.dK us')) → r (.ref a) vs H Q
def mutL (f : List Dat → List Dat → Option (Dat × List Dat)) (mo : ME) (ms : List ME) : ME := fun Γ S => match mo Γ S with
  | .v (.r k) S1 => match S1[k]? with
    | some (.lst _) => match argsP ms Γ S1 with
      | .ok es S2 => match S2[k]? with
        | some (.lst ds) => match f ds es with
          | some (d, ds') => .v (.p d) (S2.set k (.lst ds'))
          | none => .bad
        | _ => .bad
      | _ => .bad
    | _ => .bad
  | _ => .bad
def mutD (f : List (Key × Dat) → List Dat → Option (Dat × List (Key × Dat))) (mo : ME) (ms : List ME) : ME := fun Γ S => match mo Γ S with
  | .v (.r k) S1 => match S1[k]? with
    | some (.dK _) => match argsP ms Γ S1 with
      | .ok es S2 => match S2[k]? with
        | some (.dK ds) => match f ds es with
          | some (d, ds') => .v (.p d) (S2.set k (.dK ds'))
          | none => .bad
        | _ => .bad
      | _ => .bad
    | _ => .bad
  | _ => .bad
theorem mutL_ok {r : V → List V → Hp → VK → Prop} {f : List Dat → List Dat → Option (Dat × List Dat)} {ta : TA} {ms : List ME} {te : TE} (hf : MtL K r f) (ho : EM K W P to mo) (h : AMP K W P ta ms)
    (hq : ∀ σ H Q, (to σ H fun x H1 => tyV K "list" x H1 ∧ ta σ H1 fun xs H2 => r x xs H2 Q) → te σ H Q) : EM K W P te (mutL f mo ms) := fun ρ Γ S G C g s => by
  have h0 := ho ρ Γ S G C g s
  unfold mutL
  revert h0
  cases mo Γ S with
  | v x S1 =>
    cases x with
    | p d => exact fun _ => trivial
    | r k =>
      intro ⟨d1, C1, hv, s1, e1⟩
      obtain ⟨a, ha, rfl⟩ := hv
      dsimp only
      split
      · rename_i ds0 em0
        have h1 := h ρ Γ S1 G C1 g s1
        revert h1
        cases argsP ms Γ S1 with
        | ok es S2 =>
          intro ⟨C2, s2, e2⟩
          dsimp only
          split
          · rename_i ds em
            split
            · rename_i d ds' hd
              obtain ⟨a0, c0, R0, z1, z2, z3, _, _⟩ := s1.get em0 (by intro z; cases z)
              rw [ha] at z1
              cases z1
              obtain rfl : c0 = .lst ds0 := z2
              obtain ⟨a', c', R, q1, q2, q3, q4, _⟩ := s2.get em (by intro z; cases z)
              rw [ha] at q1
              cases q1
              obtain rfl : c' = .lst ds := q2
              refine ⟨d, _, rfl, q4 (.lst ds') _ rfl, fun σ H F s Q q => hq σ H Q (e1 σ H F s _ fun v H1 F1 p1 t1 r1 => ?_)⟩
              obtain rfl := rep_v.1 r1
              obtain ⟨_, o0, g0, us0, rfl, _⟩ := t1.cel.at_ _ _ (z3.symm.subset List.mem_cons_self)
              refine ⟨.inl ⟨rfl, us0, SqL.of g0⟩, e2 σ H1 F1 t1 _ fun vs H2 F2 p2 t2 r2 => ?_⟩
              obtain ⟨_, o', g1, us, rfl, g2⟩ := t2.cel.at_ _ _ (q3.symm.subset List.mem_cons_self)
              obtain ⟨us', v, w1, w2, w3⟩ := hf ds es d ds' hd a us vs H2 F2 t2.le g1 g2 r2
              obtain ⟨p4, l4, c4⟩ := post_writeP (c' := .lst ds') (o := .lst us') q3 t2.le t2.cel ⟨_, rfl, w1⟩
              exact w3 Q (q v _ F2 ((p1.trans p2).trans p4) ⟨l4, t2.gam, c4⟩ w2)
            · trivial
          · trivial
        | ex e S2 => exact fun _ => trivial
        | bad => exact fun _ => trivial
      · trivial
  | n mc S1 => exact fun _ => trivial
  | ex e S1 => exact fun _ => trivial
  | bad => exact fun _ => trivial
theorem mutD_ok {r : V → List V → Hp → VK → Prop} {f : List (Key × Dat) → List Dat → Option (Dat × List (Key × Dat))} {ta : TA} {ms : List ME} {te : TE} (hf : MtD K r f) (ho : EM K W P to mo) (h : AMP K W P ta ms)
    (hq : ∀ σ H Q, (to σ H fun x H1 => tyV K "dict" x H1 ∧ ta σ H1 fun xs H2 => r x xs H2 Q) → te σ H Q) : EM K W P te (mutD f mo ms) := fun ρ Γ S G C g s => by
  have h0 := ho ρ Γ S G C g s
  unfold mutD
  revert h0
  cases mo Γ S with
  | v x S1 =>
    cases x with
    | p d => exact fun _ => trivial
    | r k =>
      intro ⟨d1, C1, hv, s1, e1⟩
      obtain ⟨a, ha, rfl⟩ := hv
      dsimp only
      split
      · rename_i ds0 em0
        have h1 := h ρ Γ S1 G C1 g s1
        revert h1
        cases argsP ms Γ S1 with
        | ok es S2 =>
          intro ⟨C2, s2, e2⟩
          dsimp only
          split
          · rename_i ds em
            split
            · rename_i d ds' hd
              obtain ⟨a0, c0, R0, z1, z2, z3, _, _⟩ := s1.get em0 (by intro z; cases z)
              rw [ha] at z1
              cases z1
              obtain rfl : c0 = .dK ds0 := z2
              obtain ⟨a', c', R, q1, q2, q3, q4, _⟩ := s2.get em (by intro z; cases z)
              rw [ha] at q1
              cases q1
              obtain rfl : c' = .dK ds := q2
              refine ⟨d, _, rfl, q4 (.dK ds') _ rfl, fun σ H F s Q q => hq σ H Q (e1 σ H F s _ fun v H1 F1 p1 t1 r1 => ?_)⟩
              obtain rfl := rep_v.1 r1
              obtain ⟨_, o0, g0, us0, rfl, _⟩ := t1.cel.at_ _ _ (z3.symm.subset List.mem_cons_self)
              refine ⟨.inr (.inr (.inl ⟨rfl, .inl ⟨us0, g0⟩⟩)), e2 σ H1 F1 t1 _ fun vs H2 F2 p2 t2 r2 => ?_⟩
              obtain ⟨_, o', g1, us, rfl, g2⟩ := t2.cel.at_ _ _ (q3.symm.subset List.mem_cons_self)
              obtain ⟨us', v, w1, w2, w3⟩ := hf ds es d ds' hd a us vs H2 F2 t2.le g1 g2 r2
              obtain ⟨p4, l4, c4⟩ := post_writeP (c' := .dK ds') (o := .dK us') q3 t2.le t2.cel ⟨_, rfl, w1⟩
              exact w3 Q (q v _ F2 ((p1.trans p2).trans p4) ⟨l4, t2.gam, c4⟩ w2)
            · trivial
          · trivial
        | ex e S2 => exact fun _ => trivial
        | bad => exact fun _ => trivial
      · trivial
  | n mc S1 => exact fun _ => trivial
  | ex e S1 => exact fun _ => trivial
  | bad => exact fun _ => trivial
theorem em_mutL {r : V → List V → Hp → VK → Prop} {f : List Dat → List Dat → Option (Dat × List Dat)} {ta : TA} {ms : List ME} (hf : MtL K r f) (ho : EM K W P to mo) (h : AMP K W P ta ms) : EM K W P (tBM K "list" r to ta) (mutL f mo ms) := mutL_ok hf ho h fun σ H Q h => h
theorem em_mutL0 {r : V → List V → Hp → VK → Prop} {f : List Dat → List Dat → Option (Dat × List Dat)} (hf : MtL K r f) (ho : EM K W P to mo) : EM K W P (tBM0 K "list" r to) (mutL f mo []) := mutL_ok hf ho pm_nil fun σ H Q h => h
theorem em_mutD {r : V → List V → Hp → VK → Prop} {f : List (Key × Dat) → List Dat → Option (Dat × List (Key × Dat))} {ta : TA} {ms : List ME} (hf : MtD K r f) (ho : EM K W P to mo) (h : AMP K W P ta ms) : EM K W P (tBM K "dict" r to ta) (mutD f mo ms) := mutD_ok hf ho h fun σ H Q h => h
theorem em_mutD0 {r : V → List V → Hp → VK → Prop} {f : List (Key × Dat) → List Dat → Option (Dat × List (Key × Dat))} (hf : MtD K r f) (ho : EM K W P to mo) : EM K W P (tBM0 K "dict" r to) (mutD f mo []) := mutD_ok hf ho pm_nil fun σ H Q h => h

/-! ### special methods of own classes -/
def XR.mapD (g : Dat → Option Dat) : XR → XR
  | .v (.p d) S => match g d with
    | some e => .v (.p e) S
    | none => .bad
  | _ => .bad
theorem use_map {te : TE} {sp : Sp} {es : List Dat} {g : Dat → Option Dat} {r : XR} (hu : UOk K sp es C1 ρ r)
    (h3 : ∀ d d' C2, g d = some d' → (∀ vs H F Q E, Le F H → CSat K C1 H F → Reps K F es vs → (∀ v H' F', Post C1 F H C2 F' H' → Le F' H' → CSat K C2 H' F' → Rep K F' d v → Q v H') → sp vs H Q E) → Ev K te G C d' C2) : XOk K W te ρ G C (r.mapD g) := by
  cases r with
  | v x S' =>
    cases x with
    | p d =>
      obtain ⟨d', C2, h1, h2, h4⟩ := hu
      obtain rfl : d' = d := h1
      unfold XR.mapD
      dsimp only
      split
      · rename_i e he
        exact ⟨e, C2, rfl, h2, h3 _ _ _ he h4⟩
      · trivial
    | r k => trivial
  | n m S' => trivial
  | ex e S' => trivial
  | bad => trivial
def gLen : Dat → Option Dat
  | .v (.int n) => match decide (0 ≤ n) && decide (n ≤ 100000) with
    | true => some (dI n)
    | false => none
  | _ => none
def gBl : Dat → Option Dat
  | .v (.bl b) => some (dB b)
  | _ => none
def gNot : Dat → Option Dat
  | .v (.bl b) => some (dB (!b))
  | _ => none
def lenO (cn : Str) (f : DM) (ms : List ME) : ME := fun Γ S => (argsM ms Γ S).get fun xs S1 => match xs with
  | [x] => match recvP cn S1 x with
    | true => (callD f [x] S1).mapD gLen
    | false => .bad
  | _ => .bad
theorem em_lenO {cn : Str} {Cc : Addr} {f : DM} {ta : TA} {ms : List ME} (hc : clOf K cn = Cc) (h : AM K W P ta ms) : EM K W P (tCB (rLenO Cc (spF K (MirF f))) ta) (lenO cn f ms) := fun ρ Γ S G C g s => by
  subst hc
  refine ax_get (te := tCB (rLenO (clOf K cn) (spF K (MirF f))) ta) g s h (fun e C' h σ H F s Q q => h σ H F s _ q) fun xs S1 ds C1 v1 s1 e1 => ?_
  split
  · rename_i x
    split
    · rename_i hr
      refine use_map (callD_ok v1 s1) fun d d' C2 hg hu σ H F s Q q => e1 σ H F s _ fun vs H1 F1 p1 t1 r1 => ?_
      cases v1 with
      | cons vx t =>
        cases t
        obtain ⟨v, vs', rfl, r2, r3⟩ := reps_cons.1 r1
        obtain rfl := reps_nil.1 r3
        obtain ⟨a, dx, fs, rfl, h1⟩ := recvP_at hr vx s1 t1.le t1.cel r2
        refine ⟨a, dx, fs, rfl, h1, hu _ _ _ _ _ t1.le t1.cel r1 fun w H2 F2 p2 l2 c2 r4 => ?_⟩
        unfold gLen at hg
        split at hg
        · rename_i n
          split at hg
          · rename_i hb
            cases hg
            simp only [Bool.and_eq_true, decide_eq_true_eq] at hb
            refine ⟨n.toNat, (rep_v.1 r4).trans (by rw [Int.toNat_of_nonneg hb.1]), by omega, ?_⟩
            rw [Int.toNat_of_nonneg hb.1]
            exact q _ H2 F2 (p1.trans p2) ⟨l2, t1.gam.kx p2.kx, c2⟩ (rep_v.2 rfl)
          · cases hg
        · cases hg
    · trivial
  · trivial
/-- bool(o) -/
def boolO (cn : Str) (f : DM) (ms : List ME) : ME := fun Γ S => (argsM ms Γ S).get fun xs S1 => match xs with
  | [x] => match recvP cn S1 x with
    | true => (callD f [x] S1).mapD gBl
    | false => .bad
  | _ => .bad
theorem gBl_v {w : V} (h : gBl d = some d') (r : Rep K F d w) : ∃ b, w = .bl b ∧ d' = dB b := by
  unfold gBl at h
  split at h
  · cases h; exact ⟨_, rep_v.1 r, rfl⟩
  · cases h
theorem gNot_v {w : V} (h : gNot d = some d') (r : Rep K F d w) : ∃ b, w = .bl b ∧ d' = dB (!b) := by
  unfold gNot at h
  split at h
  · cases h; exact ⟨_, rep_v.1 r, rfl⟩
  · cases h
/-- x in o, x not in o -/
def inO (cn : Str) (f : DM) (neg : Bool) (ma mb : ME) : ME := fun Γ S => (ma Γ S).get fun x S1 => (mb Γ S1).get fun y S2 => match recvP cn S2 y with
  | true => (callD f [y, x] S2).mapD (match neg with | true => gNot | false => gBl)
  | false => .bad
theorem em_inO {cn : Str} {Cc : Addr} {f : DM} {neg : Bool} (hc : clOf K cn = Cc) (ha : EM K W P ta ma) (hb : EM K W P tb mb) : EM K W P (tOp (rInO neg Cc (spF K (MirF f))) ta tb) (inO cn f neg ma mb) := fun ρ Γ S G C g s => by
  subst hc
  refine ex_get (te := tOp (rInO neg (clOf K cn) (spF K (MirF f))) ta tb) g s ha (fun e C' h σ H F s Q q => h σ H F s _ q) fun x S1 d1 C1 v1 s1 e1 => ?_
  refine ex_get (te := tOp (rInO neg (clOf K cn) (spF K (MirF f))) ta tb) g s1 hb (fun e C' h σ H F s Q q => e1 σ H F s _ fun v H1 F1 p1 s1 r1 => h σ H1 F1 s1 _ fun d C3 H2 F2 z p2 s2 => q d C3 H2 F2 (z.st p1) (p1.trans p2) s2) fun y S2 d2 C2 v2 s2 e2 => ?_
  split
  · rename_i hr
    refine use_map (C1 := C2) (callD_ok (.cons v2 (.cons v1 .nil)) s2) fun d d' C3 hg hu σ H F s Q q => e1 σ H F s _ fun v H1 F1 p1 t1 r1 => e2 σ H1 F1 t1 _ fun w H2 F2 p2 t2 r2 => ?_
    obtain ⟨a, dx, fs, rfl, h1⟩ := recvP_at hr v2 s2 t2.le t2.cel r2
    refine ⟨a, dx, fs, rfl, h1, hu _ _ _ _ _ t2.le t2.cel (reps_cons.2 ⟨_, _, rfl, r2, reps_cons.2 ⟨_, _, rfl, r1.kx p2.kx, reps_nil.2 rfl⟩⟩) fun z H3 F3 p3 l3 c3 r3 => ?_⟩
    cases neg with
    | false =>
      obtain ⟨b, rfl, rfl⟩ := gBl_v hg r3
      exact ⟨b, rfl, q _ H3 F3 ((p1.trans p2).trans p3) ⟨l3, t2.gam.kx p3.kx, c3⟩ (rep_v.2 rfl)⟩
    | true =>
      obtain ⟨b, rfl, rfl⟩ := gNot_v hg r3
      exact ⟨b, rfl, q _ H3 F3 ((p1.trans p2).trans p3) ⟨l3, t2.gam.kx p3.kx, c3⟩ (rep_v.2 rfl)⟩
  · trivial
/-- o[i] -/
def ixO (cn : Str) (f : DM) (ma mb : ME) : ME := fun Γ S => (ma Γ S).get fun x S1 => (mb Γ S1).get fun y S2 => match recvP cn S2 x with
  | true => callD f [x, y] S2
  | false => .bad
theorem em_ixO {cn : Str} {Cc : Addr} {f : DM} (hc : clOf K cn = Cc) (ha : EM K W P ta ma) (hb : EM K W P tb mb) : EM K W P (tIxO Cc (spF K (MirF f)) W ta tb) (ixO cn f ma mb) := fun ρ Γ S G C g s => by
  subst hc
  refine ex_get (te := tIxO (clOf K cn) (spF K (MirF f)) W ta tb) g s ha (fun e C' h σ H F s Q q => h σ H F s _ q) fun x S1 d1 C1 v1 s1 e1 => ?_
  refine ex_get (te := tIxO (clOf K cn) (spF K (MirF f)) W ta tb) g s1 hb (fun e C' h σ H F s Q q => e1 σ H F s _ fun v H1 F1 p1 s1 r1 => h σ H1 F1 s1 _ fun d C3 H2 F2 z p2 s2 => q d C3 H2 F2 (z.st p1) (p1.trans p2) s2) fun y S2 d2 C2 v2 s2 e2 => ?_
  split
  · rename_i hr
    refine use_fin (C1 := C2) (callD_ok (.cons v1 (.cons v2 .nil)) s2) fun σ H F s Q q => e1 σ H F s _ fun v H1 F1 p1 t1 r1 => e2 σ H1 F1 t1 _ fun w H2 F2 p2 t2 r2 => ?_
    obtain ⟨a, dx, fs, rfl, h1⟩ := recvP_at hr v1 s2 t2.le t2.cel (r1.kx p2.kx)
    exact ⟨a, dx, fs, rfl, h1, q [.ref a, w] H2 F2 (p1.trans p2) t2 (reps_cons.2 ⟨_, _, rfl, r1.kx p2.kx, reps_cons.2 ⟨_, _, rfl, r2, reps_nil.2 rfl⟩⟩)⟩
  · trivial
/-- ~o -/
def invO (cn : Str) (f : DM) (ma : ME) : ME := fun Γ S => (ma Γ S).get fun x S1 => match recvP cn S1 x with
  | true => (callD f [x] S1).noX
  | false => .bad
theorem em_invO {cn : Str} {Cc : Addr} {f : DM} (hc : clOf K cn = Cc) (ha : EM K W P ta ma) : EM K W P (tUn (rInvO Cc (spF K (MirF f))) ta) (invO cn f ma) := fun ρ Γ S G C g s => by
  subst hc
  refine ex_get (te := tUn (rInvO (clOf K cn) (spF K (MirF f))) ta) g s ha (fun e C' h σ H F s Q q => h σ H F s _ q) fun x S1 d1 C1 v1 s1 e1 => ?_
  split
  · rename_i hr
    refine use_finN (E := fun _ _ _ => False) (C1 := C1) (callD_ok (.cons v1 .nil) s1) fun σ H F s Q q => e1 σ H F s _ fun v H1 F1 p1 t1 r1 => ?_
    obtain ⟨a, dx, fs, rfl, h1⟩ := recvP_at hr v1 s1 t1.le t1.cel r1
    exact ⟨a, dx, fs, rfl, h1, q [.ref a] H1 F1 p1 t1 (reps_cons.2 ⟨_, _, rfl, r1, reps_nil.2 rfl⟩)⟩
  · trivial
/-- the kind of the other side -/
def eqKd (cn : Str) : Kd → Bool
  | .bt _ => true
  | .own c => decide (c ∈ CLS) && (decide (cn = c) || !isSub c cn)
/-- o == y, o != y -/
def eqO (cn : Str) (f : DM) (neg : Bool) (ma mb : ME) : ME := fun Γ S => (ma Γ S).get fun x S1 => (mb Γ S1).get fun y S2 => match recvP cn S2 x && decide (cn ∈ CLS) with
  | true => match kindV S2 y with
    | some kd => match eqKd cn kd with
      | true => (callD f [x, y] S2).mapD (match neg with | true => gNot | false => gBl)
      | false => .bad
    | none => .bad
  | false => .bad
theorem recvP_cls {cn : Str} (h : recvP cn S x = true) (r : VR ρ x d) (s : SR ρ S C) (cs : CSat K C H F) (q : Rep K F d v) : hasCls K cn := by
  cases x with
  | p e =>
    obtain rfl : d = e := r
    cases d with
    | ins c fs =>
      simp only [recvP, decide_eq_true_eq] at h
      obtain rfl := h
      exact (rep_insC.1 q).1
    | _ => cases h
  | r k =>
    obtain ⟨a, ha, rfl⟩ := r
    simp only [recvP] at h
    split at h
    · rename_i c fs e
      simp only [decide_eq_true_eq] at h
      obtain rfl := h
      obtain ⟨a', c', R, q1, ⟨gs, rfl, q2⟩, q3, _⟩ := s.get e (by intro z; cases z)
      rw [ha] at q1
      cases q1
      obtain ⟨_, o, h1, dx, vs, rfl, h2, h3⟩ := cs.at_ _ _ (q3.symm.subset List.mem_cons_self)
      exact h3
    · cases h
theorem eq_ty {cn : Str} (t : Tab K) (hcn : cn ∈ CLS) (hcl : hasCls K cn) {y : Val} (hk : kindV S y = some kd) (he : eqKd cn kd = true) (vr : VR ρ y d) (s : SR ρ S C) (l : Le F H) (cs : CSat K C H F) (r : Rep K F d v) : ∃ t, TyX K H v t ∧ PySem.W.notFirst K (clOf K cn) t = true := by
  cases kd with
  | bt n =>
    obtain ⟨h1, _⟩ := kd_v t hk rfl vr s l cs r
    exact ⟨_, h1, t.nf _ hcn hcl n (kindV_bt hk)⟩
  | own c =>
    simp only [eqKd, Bool.and_eq_true, decide_eq_true_eq, Bool.or_eq_true, Bool.not_eq_true'] at he
    obtain ⟨h1, h2⟩ := kd_v t hk (decide_eq_true he.1) vr s l cs r
    exact ⟨_, h1, t.no _ hcn _ he.1 hcl (h2 c rfl) he.2⟩
theorem em_eqO {cn : Str} {Cc : Addr} {f : DM} (t : Tab K) (hc : clOf K cn = Cc) (ha : EM K W P ta ma) (hb : EM K W P tb mb) : EM K W P (tOp (rEqO K Cc (spF K (MirF f))) ta tb) (eqO cn f false ma mb) := fun ρ Γ S G C g s => by
  subst hc
  refine ex_get (te := tOp (rEqO K (clOf K cn) (spF K (MirF f))) ta tb) g s ha (fun e C' h σ H F s Q q => h σ H F s _ q) fun x S1 d1 C1 v1 s1 e1 => ?_
  refine ex_get (te := tOp (rEqO K (clOf K cn) (spF K (MirF f))) ta tb) g s1 hb (fun e C' h σ H F s Q q => e1 σ H F s _ fun v H1 F1 p1 s1 r1 => h σ H1 F1 s1 _ fun d C3 H2 F2 z p2 s2 => q d C3 H2 F2 (z.st p1) (p1.trans p2) s2) fun y S2 d2 C2 v2 s2 e2 => ?_
  split
  · rename_i hr
    simp only [Bool.and_eq_true, decide_eq_true_eq] at hr
    split
    · rename_i kd hkd
      split
      · rename_i hek
        refine use_map (C1 := C2) (callD_ok (.cons v1 (.cons v2 .nil)) s2) fun d d' C3 hg hu σ H F s Q q => e1 σ H F s _ fun v H1 F1 p1 t1 r1 => e2 σ H1 F1 t1 _ fun w H2 F2 p2 t2 r2 => ?_
        have hcl := recvP_cls hr.1 v1 s2 t2.cel (r1.kx p2.kx)
        obtain ⟨ty, h3, h4⟩ := eq_ty t hr.2 hcl hkd hek v2 s2 t2.le t2.cel r2
        obtain ⟨a, dx, fs, rfl, h1⟩ := recvP_at hr.1 v1 s2 t2.le t2.cel (r1.kx p2.kx)
        refine ⟨a, dx, fs, ty, rfl, h1, h3, h4, hu _ _ _ _ _ t2.le t2.cel (reps_cons.2 ⟨_, _, rfl, r1.kx p2.kx, reps_cons.2 ⟨_, _, rfl, r2, reps_nil.2 rfl⟩⟩) fun z H3 F3 p3 l3 c3 r3 => ?_⟩
        obtain ⟨b, rfl, rfl⟩ := gBl_v hg r3
        exact q _ H3 F3 ((p1.trans p2).trans p3) ⟨l3, t2.gam.kx p3.kx, c3⟩ (rep_v.2 rfl)
      · trivial
    · trivial
  · trivial
theorem em_neO {cn : Str} {Cc : Addr} {f : DM} (t : Tab K) (hc : clOf K cn = Cc) (ha : EM K W P ta ma) (hb : EM K W P tb mb) : EM K W P (tOp (rNeO K Cc (spF K (MirF f))) ta tb) (eqO cn f true ma mb) := fun ρ Γ S G C g s => by
  subst hc
  refine ex_get (te := tOp (rNeO K (clOf K cn) (spF K (MirF f))) ta tb) g s ha (fun e C' h σ H F s Q q => h σ H F s _ q) fun x S1 d1 C1 v1 s1 e1 => ?_
  refine ex_get (te := tOp (rNeO K (clOf K cn) (spF K (MirF f))) ta tb) g s1 hb (fun e C' h σ H F s Q q => e1 σ H F s _ fun v H1 F1 p1 s1 r1 => h σ H1 F1 s1 _ fun d C3 H2 F2 z p2 s2 => q d C3 H2 F2 (z.st p1) (p1.trans p2) s2) fun y S2 d2 C2 v2 s2 e2 => ?_
  split
  · rename_i hr
    simp only [Bool.and_eq_true, decide_eq_true_eq] at hr
    split
    · rename_i kd hkd
      split
      · rename_i hek
        refine use_map (C1 := C2) (callD_ok (.cons v1 (.cons v2 .nil)) s2) fun d d' C3 hg hu σ H F s Q q => e1 σ H F s _ fun v H1 F1 p1 t1 r1 => e2 σ H1 F1 t1 _ fun w H2 F2 p2 t2 r2 => ?_
        have hcl := recvP_cls hr.1 v1 s2 t2.cel (r1.kx p2.kx)
        obtain ⟨ty, h3, h4⟩ := eq_ty t hr.2 hcl hkd hek v2 s2 t2.le t2.cel r2
        obtain ⟨a, dx, fs, rfl, h1⟩ := recvP_at hr.1 v1 s2 t2.le t2.cel (r1.kx p2.kx)
        refine ⟨a, dx, fs, ty, rfl, h1, h3, h4, hu _ _ _ _ _ t2.le t2.cel (reps_cons.2 ⟨_, _, rfl, r1.kx p2.kx, reps_cons.2 ⟨_, _, rfl, r2, reps_nil.2 rfl⟩⟩) fun z H3 F3 p3 l3 c3 r3 => ?_⟩
        obtain ⟨b, rfl, rfl⟩ := gNot_v hg r3
        exact ⟨b, rfl, q _ H3 F3 ((p1.trans p2).trans p3) ⟨l3, t2.gam.kx p3.kx, c3⟩ (rep_v.2 rfl)⟩
      · trivial
    · trivial
  · trivial
/-- o op y: y of the same class, of one of the classes os, or an int -/
def binOk (cn : Str) (os : List Str) (int : Bool) (S : Store) (y : Val) : Bool := match kindV S y with
  | some (.own c) => decide (c = cn) || decide (c ∈ os)
  | some (.bt n) => int && decide (n = "int")
  | none => false
def binO (cn : Str) (f : DM) (os : List Str) (int : Bool) (ma mb : ME) : ME := fun Γ S => (ma Γ S).get fun x S1 => (mb Γ S1).get fun y S2 => match recvP cn S2 x && binOk cn os int S2 y with
  | true => callD f [x, y] S2
  | false => .bad
theorem kind_own {cn : Str} {y : Val} (hk : kindV S y = some (.own cn)) (vr : VR ρ y d) (s : SR ρ S C) (l : Le F H) (cs : CSat K C H F) (r : Rep K F d v) : ∃ a dx fs, v = .ref a ∧ H a = some (.ins (clOf K cn) dx fs) := by
  refine recvP_at (cn := cn) ?_ vr s l cs r
  cases y with
  | p e =>
    simp only [kindV] at hk
    unfold kindD at hk
    split at hk <;> first | (cases hk; done) | skip
    cases hk
    simp [recvP]
  | r k =>
    simp only [kindV] at hk
    split at hk <;> first | (cases hk; done) | skip
    rename_i n fs em
    cases hk
    simp [recvP, em]
theorem kind_int {y : Val} (hk : kindV S y = some (.bt "int")) (vr : VR ρ y d) (r : Rep K F d v) : ∃ i, v = .int i := by
  cases y with
  | p e =>
    obtain rfl : d = e := vr
    simp only [kindV] at hk
    unfold kindD at hk
    split at hk
    · simp at hk
    · simp at hk
    · exact ⟨_, rep_v.1 r⟩
    all_goals first | (simp at hk; done) | cases hk
  | r k =>
    simp only [kindV] at hk
    split at hk <;> first | (simp at hk; done) | cases hk
theorem em_binO {cn : Str} {Cc : Addr} {f : DM} {op : Operator} {os : List Str} {int : Bool} (hc : clOf K cn = Cc) (ho : ∀ c ∈ os, ∀ a dx fs H, H a = some (.ins (clOf K c) dx fs) → OtherC K H Cc op (.ref a)) (hi : int = true → ∀ i H, OtherC K H Cc op (.int i))
    (ha : EM K W P ta ma) (hb : EM K W P tb mb) : EM K W P (tBinO K Cc op (spF K (MirF f)) W ta tb) (binO cn f os int ma mb) := fun ρ Γ S G C g s => by
  subst hc
  refine ex_get (te := tBinO K (clOf K cn) op (spF K (MirF f)) W ta tb) g s ha (fun e C' h σ H F s Q q => h σ H F s _ q) fun x S1 d1 C1 v1 s1 e1 => ?_
  refine ex_get (te := tBinO K (clOf K cn) op (spF K (MirF f)) W ta tb) g s1 hb (fun e C' h σ H F s Q q => e1 σ H F s _ fun v H1 F1 p1 s1 r1 => h σ H1 F1 s1 _ fun d C3 H2 F2 z p2 s2 => q d C3 H2 F2 (z.st p1) (p1.trans p2) s2) fun y S2 d2 C2 v2 s2 e2 => ?_
  split
  · rename_i hr
    simp only [Bool.and_eq_true] at hr
    refine use_fin (C1 := C2) (callD_ok (.cons v1 (.cons v2 .nil)) s2) fun σ H F s Q q => e1 σ H F s _ fun v H1 F1 p1 t1 r1 => e2 σ H1 F1 t1 _ fun w H2 F2 p2 t2 r2 => ?_
    obtain ⟨a, dx, fs, rfl, h1⟩ := recvP_at hr.1 v1 s2 t2.le t2.cel (r1.kx p2.kx)
    refine ⟨a, dx, fs, rfl, h1, ?_, q [.ref a, w] H2 F2 (p1.trans p2) t2 (reps_cons.2 ⟨_, _, rfl, r1.kx p2.kx, reps_cons.2 ⟨_, _, rfl, r2, reps_nil.2 rfl⟩⟩)⟩
    have hy := hr.2
    unfold binOk at hy
    split at hy
    · rename_i c hk
      obtain ⟨b, dy, gs, rfl, h2⟩ := kind_own hk v2 s2 t2.le t2.cel r2
      simp only [Bool.or_eq_true, decide_eq_true_eq] at hy
      rcases hy with rfl | hy
      · exact .same h2
      · exact ho c hy b dy gs H2 h2
    · rename_i n hk
      simp only [Bool.and_eq_true, decide_eq_true_eq] at hy
      obtain ⟨hy1, rfl⟩ := hy
      obtain ⟨i, rfl⟩ := kind_int hk v2 r2
      exact hi hy1 i H2
    · cases hy
  · trivial

/-! ### raise, try -/
def tTryAs (K : PySem.W.Frag) (c : Value) (i : Nat) (ts : Addr → Value → Option Addr → TS) (Wout : WX) (tb : WX → TS) : TS := fun D σ H => tb (wAs K c i ts Wout D) D σ H
def tTryOn (K : PySem.W.Frag) (c : Value) (ts : Addr → Value → Option Addr → TS) (Wout : WX) (tb : WX → TS) : TS := fun D σ H => tb (wOnly K c ts Wout D) D σ H
def raiseM (cn : Str) : MS := fun Γ S => .ex ⟨cn, none⟩ Γ S
theorem rm_raise {cn : Str} {t : L2.St → Hp → XK → Prop} (ht : ∀ σ H (Q : XK), Q (.ref (clOf K cn)) none H → t σ H Q) : RM K W P k0 (tRs W t) (raiseM cn) := fun ρ Γ S G C e B g s o h => r_raise ht (h ρ G C (preR ρ) o g s)
/-- the cells that a caught exception brings -/
def excS (x : Exn) : Store := match x.fs with
  | none => [.gone]
  | some fs => [.gone, .xd fs]
def excP (ka : Nat) (a : Addr) : Option Addr → List (Nat × Addr)
  | none => [(ka, a)]
  | some d => [(ka, a), (ka + 1, d)]
/-- the slot is empty behind the suite -/
def Rs.drop (i : Nat) : Rs → Rs
  | .nx Γ S => .nx (Γ.set i none) S
  | .bk Γ S => .bk (Γ.set i none) S
  | .ct Γ S => .ct (Γ.set i none) S
  | r => r
def tryAs (cs no : List Str) (i : Nat) (body : MS) (suite : Exn → Nat → MS) : MS := fun Γ S => match body Γ S with
  | .ex x Γ1 S1 => match decide (x.cls ∈ cs) with
    | true => (suite x S1.length (Γ1.set i (some (.r S1.length))) (S1 ++ excS x)).drop i
    | false => match decide (x.cls ∈ no) with
      | true => .ex x Γ1 S1
      | false => .bad
  | r => r
def tryOn (cs no : List Str) (body suite : MS) : MS := fun Γ S => match body Γ S with
  | .ex x Γ1 S1 => match decide (x.cls ∈ cs) with
    | true => suite Γ1 (S1 ++ excS x)
    | false => match decide (x.cls ∈ no) with
      | true => .ex x Γ1 S1
      | false => .bad
  | r => r
theorem SR.exc {x : Exn} {dd : Option Addr} {C' : Cells} {N : Addr → Prop} (s : SR ρ S C) (z : XSat N x C dd C') : SR (ρ ++ (a :: dd.toList)) (S ++ excS x) C' := by
  unfold XSat at z
  unfold excS
  obtain ⟨L, h1, h2⟩ := s
  split at z
  · rename_i e
    obtain ⟨rfl, rfl⟩ := z
    (try simp only [e])
    have pre : ρ <+: ρ ++ [a] := List.prefix_append _ _
    exact ⟨L ++ [], (h1.mono pre).app (.gone .nil), by rw [List.append_nil]; exact h2⟩
  · rename_i fs e
    obtain ⟨b, rfl, rfl, _⟩ := z
    (try simp only [e])
    have pre : ρ <+: ρ ++ [a, b] := List.prefix_append _ _
    have h3 : SRL (ρ ++ [a, b]) [a, b] [.gone, .xd fs] [(b, .xd fs)] := .gone (.cons (show CR (ρ ++ [a, b]) (.xd fs) (.xd fs) from rfl) .nil)
    exact ⟨L ++ [(b, Cell.xd fs)], (h1.mono pre).app h3, (List.Perm.cons _ h2).trans (List.perm_append_comm (l₁ := [(b, Cell.xd fs)]) (l₂ := L))⟩
theorem GR.exc {dd : Option Addr} (g : GR P ρ Γ G) (hk : k0 = ρ.length) : GR (excP k0 a dd ++ P) (ρ ++ (a :: dd.toList)) (Γ.set i (some (.r k0))) (G.set i (some (dR a))) := by
  subst hk
  have pre : ρ <+: ρ ++ (a :: dd.toList) := List.prefix_append _ _
  have ga : (ρ ++ (a :: dd.toList))[ρ.length]? = some a := by rw [List.getElem?_append_right (Nat.le_refl _), Nat.sub_self] <;> rfl
  have g2 := (g.mono pre).set (i := i) (x := .r ρ.length) (d := dR a) ⟨a, ga, rfl⟩
  refine ⟨fun q m => ?_, g2.len, g2.at_⟩
  rcases List.mem_append.1 m with m | m
  · cases dd with
    | none =>
      rcases List.mem_cons.1 m with rfl | m
      · exact ga
      · cases m
    | some b =>
      rcases List.mem_cons.1 m with rfl | m
      · exact ga
      · rcases List.mem_cons.1 m with rfl | m
        · show (ρ ++ [a, b])[ρ.length + 1]? = some b
          rw [List.getElem?_append_right (by omega), show ρ.length + 1 - ρ.length = 1 by omega] <;> rfl
        · cases m
  · exact g2.px q m
theorem GR.excO {dd : Option Addr} (g : GR P ρ Γ G) (hk : k0 = ρ.length) : GR (excP k0 a dd ++ P) (ρ ++ (a :: dd.toList)) Γ G := by
  have h := g.exc (a := a) (dd := dd) (i := 0) hk
  have g2 := g.mono (List.prefix_append ρ (a :: dd.toList))
  exact ⟨h.px, g2.len, g2.at_⟩
theorem r_tryAs {e : Ent} {B : Bd} {cv : Value} {ts : Addr → Value → Option Addr → TS} {tb : WX → TS} (h : ∀ W', Run K W' (tb W') e G C { B with xc := fun x Γ' C' => ∃ b, PySem.W.exmOne K (.ref (clOf K x.cls)) cv = some b ∧ (b = true → ∀ a d C'', a ∉ e.I → XSat (fun b => b ∉ e.I) x C' d C'' → Run K W (ts a (.ref (clOf K x.cls)) d) e (Γ'.set i (some (dR a))) C''
      { B with nx := fun Γ2 C2 => B.nx (Γ2.set i none) C2, bk := fun Γ2 C2 => B.bk (Γ2.set i none) C2, ct := fun Γ2 C2 => B.ct (Γ2.set i none) C2, xc := fun x Γ2 C2 => B.xc x Γ2 C2 }) ∧ (b = false → B.xc x Γ' C') }) :
    Run K W (tTryAs K cv i ts W tb) e G C B := fun σ H D q E => h _ σ H D q ⟨E.nx, E.rt, E.rn, E.bk, E.ct, fun x Γ' C' σ' d C'' H' F' ⟨b, h1, h2, h3⟩ z q' => by
  refine ⟨b, h1, fun hb a ha => ?_, fun hb => E.xc _ _ _ _ _ _ _ _ (h3 hb) z q'⟩
  refine h2 hb a d C'' (fun m => noP q'.po ha (e.hI a m)) (z.imp fun b hn m => hn (e.hI b m)) _ _ _ ⟨F', q'.po, ⟨q'.sa.le, q'.sa.gam.set (rep_v.2 rfl), q'.sa.cel⟩, q'.ci⟩ ⟨fun Γ C σ H z q => E.nx _ _ _ _ z ?_, E.rt, E.rn, fun Γ C σ H z q => E.bk _ _ _ _ z ?_, fun Γ C σ H z q => E.ct _ _ _ _ z ?_, E.xc⟩
  all_goals
    obtain ⟨F, q⟩ := q
    exact ⟨F, q.po, ⟨q.sa.le, q.sa.gam.setN, q.sa.cel⟩, q.ci⟩⟩
theorem r_tryOn {e : Ent} {B : Bd} {cv : Value} {ts : Addr → Value → Option Addr → TS} {tb : WX → TS} (h : ∀ W', Run K W' (tb W') e G C { B with xc := fun x Γ' C' => ∃ b, PySem.W.exmOne K (.ref (clOf K x.cls)) cv = some b ∧ (b = true → ∀ a d C'', a ∉ e.I → XSat (fun b => b ∉ e.I) x C' d C'' → Run K W (ts a (.ref (clOf K x.cls)) d) e Γ' C'' B) ∧ (b = false → B.xc x Γ' C') }) :
    Run K W (tTryOn K cv ts W tb) e G C B := fun σ H D q E => h _ σ H D q ⟨E.nx, E.rt, E.rn, E.bk, E.ct, fun x Γ' C' σ' d C'' H' F' ⟨b, h1, h2, h3⟩ z q' => by
  refine ⟨b, h1, fun hb a ha => ?_, fun hb => E.xc _ _ _ _ _ _ _ _ (h3 hb) z q'⟩
  exact h2 hb a d C'' (fun m => noP q'.po ha (e.hI a m)) (z.imp fun b hn m => hn (e.hI b m)) _ _ _ ⟨F', q'⟩ E⟩
/-- d is the address of x's own dict, or none -/
def XD (x : Exn) (d : Option Addr) : Prop := x.fs = none ∧ d = none ∨ ∃ fs b, x.fs = some fs ∧ d = some b
theorem xsat_xd {N : Addr → Prop} {x : Exn} {dd : Option Addr} {C' : Cells} (z : XSat N x C dd C') : XD x dd := by
  unfold XSat at z
  split at z
  · rename_i e; exact .inl ⟨e, z.1⟩
  · rename_i fs e; obtain ⟨b, h, _⟩ := z; exact .inr ⟨fs, b, e, h⟩
theorem OKr.exc {a : Addr} {I : List Addr} {x : Exn} {dd : Option Addr} {C' : Cells} (o : OKr k0 ρ I) (h : a ∉ I) (z : XSat (fun b => b ∉ I) x C dd C') : OKr k0 (ρ ++ (a :: dd.toList)) I := by
  have o1 := o.snoc h
  unfold XSat at z
  split at z
  · obtain ⟨rfl, _⟩ := z
    exact o1
  · obtain ⟨b, rfl, _, hb⟩ := z
    have o2 := o1.snoc hb
    rwa [List.append_assoc] at o2
theorem GR.sub {Q : List (Nat × Addr)} (g : GR (Q ++ P) ρ Γ G) : GR P ρ Γ G := ⟨fun q m => g.px q (List.mem_append_right _ m), g.len, g.at_⟩
theorem SRlen (s : SR ρ S C) : S.length = ρ.length := s.len.symm
/-- more pairs may be promised -/
theorem RsOk.wk {Q : List (Nat × Addr)} {I : List Addr} {B : Bd} {r : Rs} (h : RsOk P k0 I B ρ r) : RsOk (Q ++ P) k0 I B ρ r := by
  cases r with
  | nx Γ S => exact fun ρ' G C p o g s => h ρ' G C p o g.sub s
  | bk Γ S => exact fun ρ' G C p o g s => h ρ' G C p o g.sub s
  | ct Γ S => exact fun ρ' G C p o g s => h ρ' G C p o g.sub s
  | ex e Γ S => exact fun ρ' G C p o g s => h ρ' G C p o g.sub s
  | rt x S => cases x <;> exact h
  | rn c S => exact h
  | bad => exact h
theorem RsOk.drop {Q : List (Nat × Addr)} {I : List Addr} {B : Bd} {r : Rs} (h : RsOk P k0 I B ρ (r.drop i)) :
    RsOk (Q ++ P) k0 I { B with nx := fun Γ2 C2 => B.nx (Γ2.set i none) C2, bk := fun Γ2 C2 => B.bk (Γ2.set i none) C2, ct := fun Γ2 C2 => B.ct (Γ2.set i none) C2, xc := fun x Γ2 C2 => B.xc x Γ2 C2 } ρ r := by
  cases r with
  | nx Γ S => exact fun ρ' G C p o g s => h ρ' _ C p o g.sub.setNN s
  | bk Γ S => exact fun ρ' G C p o g s => h ρ' _ C p o g.sub.setNN s
  | ct Γ S => exact fun ρ' G C p o g s => h ρ' _ C p o g.sub.setNN s
  | ex e Γ S => exact fun ρ' G C p o g s => h ρ' G C p o g.sub s
  | rt x S => cases x <;> exact h
  | rn c S => exact h
  | bad => exact h
theorem rm_tryAs {cs no : List Str} {cv : Value} {ts : Addr → Value → Option Addr → TS} {tb : WX → TS} {body : MS} {suite : Exn → Nat → MS} (hcs : ∀ n ∈ cs, PySem.W.exmOne K (.ref (clOf K n)) cv = some true) (hno : ∀ n ∈ no, PySem.W.exmOne K (.ref (clOf K n)) cv = some false)
    (hb : ∀ W', RM K W' P k0 (tb W') body) (hs : ∀ a x ka cls d, x.cls ∈ cs → cls = .ref (clOf K x.cls) → XD x d → RM K W (excP ka a d ++ P) k0 (ts a cls d) (suite x ka)) : RM K W P k0 (tTryAs K cv i ts W tb) (tryAs cs no i body suite) := fun ρ Γ S G C e B g s o hr => by
  refine r_tryAs fun W' => hb W' ρ Γ S G C e _ g s o ?_
  unfold tryAs at hr
  revert hr
  cases body Γ S with
  | nx Γ1 S1 => exact id
  | bk Γ1 S1 => exact id
  | ct Γ1 S1 => exact id
  | rt x S1 => cases x <;> exact id
  | rn c S1 => exact id
  | bad => exact id
  | ex x Γ1 S1 =>
    intro hr ρ' G' C' p o' g' s'
    dsimp only at hr
    split at hr
    · rename_i hc
      refine ⟨true, hcs _ (of_decide_eq_true hc), fun _ a d C'' ha z => ?_, fun q => by cases q⟩
      have pre : ρ' <+: ρ' ++ (a :: d.toList) := List.prefix_append _ _
      refine hs a x S1.length _ d (of_decide_eq_true hc) rfl (xsat_xd z) (ρ' ++ (a :: d.toList)) (Γ1.set i (some (.r S1.length))) (S1 ++ excS x) _ C'' e _ (g'.exc (SRlen s')) (s'.exc z) (o'.exc ha z) ?_
      exact (hr.mono (p.trans pre)).drop
    · split at hr
      · rename_i hn
        exact ⟨false, hno _ (of_decide_eq_true hn), (fun q => by cases q), fun _ => hr ρ' G' C' p o' g' s'⟩
      · exact hr.elim
theorem rm_tryOn {cs no : List Str} {cv : Value} {ts : Addr → Value → Option Addr → TS} {tb : WX → TS} {body suite : MS} (hcs : ∀ n ∈ cs, PySem.W.exmOne K (.ref (clOf K n)) cv = some true) (hno : ∀ n ∈ no, PySem.W.exmOne K (.ref (clOf K n)) cv = some false)
    (hb : ∀ W', RM K W' P k0 (tb W') body) (hs : ∀ a cls d, RM K W P k0 (ts a cls d) suite) : RM K W P k0 (tTryOn K cv ts W tb) (tryOn cs no body suite) := fun ρ Γ S G C e B g s o hr => by
  refine r_tryOn fun W' => hb W' ρ Γ S G C e _ g s o ?_
  unfold tryOn at hr
  revert hr
  cases body Γ S with
  | nx Γ1 S1 => exact id
  | bk Γ1 S1 => exact id
  | ct Γ1 S1 => exact id
  | rt x S1 => cases x <;> exact id
  | rn c S1 => exact id
  | bad => exact id
  | ex x Γ1 S1 =>
    intro hr ρ' G' C' p o' g' s'
    dsimp only at hr
    split at hr
    · rename_i hc
      refine ⟨true, hcs _ (of_decide_eq_true hc), fun _ a d C'' ha z => ?_, fun q => by cases q⟩
      have pre : ρ' <+: ρ' ++ (a :: d.toList) := List.prefix_append _ _
      exact hs a _ d (ρ' ++ (a :: d.toList)) Γ1 (S1 ++ excS x) _ C'' e _ ((g'.excO (a := a) (dd := d) (SRlen s')).sub) (s'.exc z) (o'.exc ha z) (hr.mono (p.trans pre))
    · split at hr
      · rename_i hn
        exact ⟨false, hno _ (of_decide_eq_true hn), (fun q => by cases q), fun _ => hr ρ' G' C' p o' g' s'⟩
      · exact hr.elim
end
end Mr
end

section
set_option maxRecDepth 100000
set_option maxHeartbeats 4000000
/-! Mr7: built-in operations by data. -/
namespace Mr
open PySem L2 Dm PySem.Spec PyProof.Rows

section
variable {K : PySem.W.Frag} {W : WX} {P : List (Nat × Addr)} {C : Cells} {F H : Hp} {v : V} {ds es : List Dat} {d e : Dat}
theorem rv_ret {r : List V → Hp → VK → Prop} (h : ∀ vs H F C, Le F H → CSat K C H F → Vws K C F ds vs → ∃ v, Rep K F d v ∧ ∀ Q : VK, Q v H → r vs H Q) : RvD K r ds d := fun vs H F C l s rs Q q => by
  obtain ⟨v, h1, h2⟩ := h vs H F C l s rs
  exact h2 Q (q v H F Post.refl l s h1)
theorem rv_new {r : List V → Hp → VK → Prop} {c : Cell} (h : ∀ vs H F C, Le F H → CSat K C H F → Vws K C F ds vs → ∃ o, CRep K F c o ∧ ∀ Q : VK, (∀ p, H p = none → Q (.ref p) (upd H p o)) → r vs H Q) : RvN K r ds c := fun vs H F C l s rs Q q => by
  obtain ⟨o, h1, h2⟩ := h vs H F C l s rs
  refine h2 Q fun p hp => ?_
  obtain ⟨p1, l1, c1⟩ := post_new l s hp h1
  exact q p _ F p1 l1 c1 hp
/-! ### ints -/
def iP (g : Int → Int → V) : List Dat → PR
  | [.v (.int i), .v (.int j)] => .d (.v (g i j))
  | _ => .no
def iPc (p : Int → Int → Bool) (g : Int → Int → V) : List Dat → PR
  | [.v (.int i), .v (.int j)] => match p i j with
    | true => .d (.v (g i j))
    | false => .no
  | _ => .no
theorem ok_iP {g : Int → Int → V} : POk K (r2L (rI0 g)) (iP g) := fun ds => by
  unfold iP
  split
  · rename_i i j
    refine rv_ret fun vs H F C l s rs => ?_
    obtain ⟨v, w, rfl, h1, h2⟩ := vws2 rs
    exact ⟨_, rep_v.2 rfl, fun Q q => ⟨v, w, rfl, i, j, vw_v h1, vw_v h2, q⟩⟩
  · trivial
theorem ok_iPc {p : Int → Int → Bool} {R : Int → Int → Prop} {g : Int → Int → V} (hp : ∀ i j, p i j = true → R i j) : POk K (r2L (rI R g)) (iPc p g) := fun ds => by
  unfold iPc
  split
  · rename_i i j
    split
    · rename_i e
      refine rv_ret fun vs H F C l s rs => ?_
      obtain ⟨v, w, rfl, h1, h2⟩ := vws2 rs
      exact ⟨_, rep_v.2 rfl, fun Q q => ⟨v, w, rfl, i, j, vw_v h1, vw_v h2, hp i j e, q⟩⟩
    · trivial
  · trivial
abbrev pAdd := iP fun i j => .int (i + j)
abbrev pSub := iP fun i j => .int (i - j)
def mulB (i j : Int) : Bool := decide (i.natAbs < 2 ^ 64) || decide (j.natAbs < 2 ^ 64)
def pMul := iPc mulB fun i j => .int (i * j)
def divB (i j : Int) : Bool := decide (0 < j) && decide (j < 1073741824)
def pDiv := iPc divB fun i j => .int (i / j)
def modB (i j : Int) : Bool := decide (0 < j)
def pMod := iPc modB fun i j => .int (i % j)
def powB (i j : Int) : Bool := decide (0 ≤ j) && decide (j ≤ 100) && decide (i.natAbs < 2 ^ 64)
def pPow := iPc powB fun i j => .int (i ^ j.toNat)
theorem ok_mul : POk K (r2L (rI CMul fun i j => .int (i * j))) pMul := ok_iPc fun i j h => by
  unfold mulB at h
  simp only [Bool.or_eq_true, decide_eq_true_eq] at h
  unfold CMul
  omega
theorem ok_div : POk K (r2L (rI CDiv fun i j => .int (i / j))) pDiv := ok_iPc fun i j h => by
  unfold divB at h
  simp only [Bool.and_eq_true, decide_eq_true_eq] at h
  exact h
theorem ok_mod : POk K (r2L (rI (fun _ j => 0 < j) fun i j => .int (i % j))) pMod := ok_iPc fun i j h => of_decide_eq_true h
theorem ok_pow : POk K (r2L (rI CPow fun i j => .int (i ^ j.toNat))) pPow := ok_iPc fun i j h => by
  unfold powB at h
  simp only [Bool.and_eq_true, decide_eq_true_eq] at h
  exact ⟨h.1.1, by omega, h.2⟩
abbrev pLt := iP fun i j => .bl (decide (i < j))
abbrev pLe := iP fun i j => .bl (decide (i ≤ j))
abbrev pGt := iP fun i j => .bl (decide (j < i))
abbrev pGe := iP fun i j => .bl (decide (j ≤ i))
def pNeg : List Dat → PR
  | [.v (.int i)] => .d (dI (-i))
  | _ => .no
theorem ok_neg : POk K (fun vs H Q => ∃ x, vs = [x] ∧ rU (fun i => .int (-i)) x H Q) pNeg := fun ds => by
  unfold pNeg
  split
  · rename_i i
    refine rv_ret fun vs H F C l s rs => ?_
    obtain ⟨v, rfl, h1⟩ := vws1 rs
    exact ⟨_, rep_v.2 rfl, fun Q q => ⟨v, rfl, i, vw_v h1, q⟩⟩
  · trivial
/-! ### == of plain data, is, in -/
theorem vw_dp (l : Le F H) (s : CSat K C H F) (hd : okD d = true) (h : Vw K C F d v) : Dp K H v (pyD d) := by
  cases d with
  | v x => rw [vw_v h]; exact dp_rep l hd (rep_v.2 rfl)
  | lst xs =>
    obtain ⟨a, us, rfl, h1, h2⟩ := vw_lst l s h
    simp only [okD] at hd
    simp only [pyD]
    exact .lst (SqL.of h1) (dp_reps l hd h2)
  | tup xs =>
    obtain ⟨a, us, rfl, h1, h2⟩ := vw_tup l s h
    simp only [okD] at hd
    simp only [pyD]
    exact .tup (SqT.of h1) (dp_reps l hd h2)
  | _ => simp [okD] at hd
def pEqN (neg : Bool) : List Dat → PR
  | [d, e] => match okD d && okD e && decide (dpD d ≤ 64) && decide (dpD e ≤ 64) with
    | true => .d (dB (match neg with | true => !deq d e | false => deq d e))
    | false => .no
  | _ => .no
abbrev pEq := pEqN false
abbrev pNe := pEqN true
theorem ok_eq : POk K (r2L (rEqD K)) pEq := fun ds => by
  unfold pEq pEqN
  split
  · rename_i d e
    split
    · rename_i h
      simp only [Bool.and_eq_true, decide_eq_true_eq] at h
      refine rv_ret fun vs H F C l s rs => ?_
      obtain ⟨v, w, rfl, q1, q2⟩ := vws2 rs
      exact ⟨_, rep_v.2 rfl, fun Q q => ⟨v, w, rfl, pyD d, pyD e, vw_dp l s h.1.1.1 q1, vw_dp l s h.1.1.2 q2, shaped_pyD h.1.1.1 h.1.2, shaped_pyD h.1.1.2 h.2, by rw [eqv_pyD h.1.1.1 h.1.1.2]; exact q⟩⟩
    · trivial
  · trivial
theorem ok_ne : POk K (r2L (rNeD K)) pNe := fun ds => by
  unfold pNe pEqN
  split
  · rename_i d e
    split
    · rename_i h
      simp only [Bool.and_eq_true, decide_eq_true_eq] at h
      refine rv_ret fun vs H F C l s rs => ?_
      obtain ⟨v, w, rfl, q1, q2⟩ := vws2 rs
      exact ⟨_, rep_v.2 rfl, fun Q q => ⟨v, w, rfl, pyD d, pyD e, vw_dp l s h.1.1.1 q1, vw_dp l s h.1.1.2 q2, shaped_pyD h.1.1.1 h.1.2, shaped_pyD h.1.1.2 h.2, by rw [eqv_pyD h.1.1.1 h.1.1.2]; exact q⟩⟩
    · trivial
  · trivial
/-- a value that is None; anything else that is not -/
def isN : Dat → Option Bool
  | .v .non => some true
  | .v (.bl _) => some false
  | .v (.int _) => some false
  | .v (.str _) => some false
  | .lst _ => some false
  | .tup _ => some false
  | .dK _ => some false
  | .ins _ _ => some false
  | _ => none
def pIsN (neg : Bool) : List Dat → PR
  | [d, .v .non] => match isN d with
    | some b => .d (dB (match neg with | true => !b | false => b))
    | none => .no
  | _ => .no
theorem isN_v (l : Le F H) (s : CSat K C H F) {b : Bool} (h : isN d = some b) (q : Vw K C F d v) : decide (v = .non) = b := by
  unfold isN at h
  split at h
  · cases h; rw [vw_v q]; rfl
  · cases h; rw [vw_v q]; rfl
  · cases h; rw [vw_v q]; rfl
  · cases h; rw [vw_v q]; rfl
  · cases h; obtain ⟨a, us, rfl, _⟩ := vw_lst l s q; rfl
  · cases h; obtain ⟨a, us, rfl, _⟩ := vw_tup l s q; rfl
  · cases h; obtain ⟨a, us, rfl, _⟩ := vw_dK l s q; rfl
  · cases h; obtain ⟨a, dx, us, rfl, _⟩ := vw_ins l s q; rfl
  · cases h
theorem ok_isN : POk K (r2L (fun x y H Q => y = .non ∧ Q (.bl (decide (x = .non))) H)) (pIsN false) := fun ds => by
  unfold pIsN
  split
  · rename_i d
    split
    · rename_i b hb
      refine rv_ret fun vs H F C l s rs => ?_
      obtain ⟨v, w, rfl, q1, q2⟩ := vws2 rs
      exact ⟨_, rep_v.2 rfl, fun Q q => ⟨v, w, rfl, vw_v q2, by rw [isN_v l s hb q1]; exact q⟩⟩
    · trivial
  · trivial
theorem ok_notN : POk K (r2L (fun x y H Q => y = .non ∧ Q (.bl (!decide (x = .non))) H)) (pIsN true) := fun ds => by
  unfold pIsN
  split
  · rename_i d
    split
    · rename_i b hb
      refine rv_ret fun vs H F C l s rs => ?_
      obtain ⟨v, w, rfl, q1, q2⟩ := vws2 rs
      exact ⟨_, rep_v.2 rfl, fun Q q => ⟨v, w, rfl, vw_v q2, by rw [isN_v l s hb q1]; exact q⟩⟩
    · trivial
  · trivial
def pIsB (neg : Bool) : List Dat → PR
  | [.v (.bl a), .v (.bl b)] => .d (dB (match neg with | true => !decide (a = b) | false => decide (a = b)))
  | _ => .no
theorem ok_isB : POk K (r2L rIsB) (pIsB false) := fun ds => by
  unfold pIsB
  split
  · refine rv_ret fun vs H F C l s rs => ?_
    obtain ⟨v, w, rfl, q1, q2⟩ := vws2 rs
    exact ⟨_, rep_v.2 rfl, fun Q q => ⟨v, w, rfl, _, _, vw_v q1, vw_v q2, q⟩⟩
  · trivial
theorem ok_notB : POk K (r2L rNotB) (pIsB true) := fun ds => by
  unfold pIsB
  split
  · refine rv_ret fun vs H F C l s rs => ?_
    obtain ⟨v, w, rfl, q1, q2⟩ := vws2 rs
    exact ⟨_, rep_v.2 rfl, fun Q q => ⟨v, w, rfl, _, _, vw_v q1, vw_v q2, q⟩⟩
  · trivial
/-- flat values -/
def flats : List Dat → Option (List V)
  | [] => some []
  | .v x :: ds => match flatV x with
    | true => match flats ds with
      | some xs => some (x :: xs)
      | none => none
    | false => none
  | _ :: _ => none
theorem flats_reps {F : Hp} : ∀ {ds : List Dat} {xs us : List V}, flats ds = some xs → Reps K F ds us → us = xs ∧ xs.all flatV = true
  | [], xs, us, h, r => by cases h; exact ⟨reps_nil.1 r, rfl⟩
  | d :: ds, xs, us, h, r => by
    obtain ⟨v, us', rfl, r1, r2⟩ := reps_cons.1 r
    cases d with
    | v x =>
      simp only [flats] at h
      split at h
      · rename_i hx
        split at h
        · rename_i ys e
          cases h
          obtain ⟨rfl, h2⟩ := flats_reps e r2
          exact ⟨by rw [rep_v.1 r1], by rw [List.all_cons, hx, h2] <;> rfl⟩
        · cases h
      · cases h
    | _ => simp [flats] at h
def pInN (neg : Bool) : List Dat → PR
  | [.v x, .lst ds] => match flatV x with
    | true => match flats ds with
      | some xs => .d (dB (match neg with | true => !inV x xs | false => inV x xs))
      | none => .no
    | false => .no
  | [.v x, .tup ds] => match flatV x with
    | true => match flats ds with
      | some xs => .d (dB (match neg with | true => !inV x xs | false => inV x xs))
      | none => .no
    | false => .no
  | _ => .no
abbrev pIn := pInN false
abbrev pNin := pInN true
theorem ok_inN {neg : Bool} : POk K (r2L (rIn K neg)) (pInN neg) := fun ds => by
  unfold pInN
  split
  · rename_i x ds
    split
    · rename_i hx
      split
      · rename_i xs e
        refine rv_ret fun vs H F C l s rs => ?_
        obtain ⟨v, w, rfl, q1, q2⟩ := vws2 rs
        obtain ⟨a, us, rfl, h1, h2⟩ := vw_lst l s q2
        obtain ⟨rfl, h3⟩ := flats_reps e h2
        obtain rfl := vw_v q1
        exact ⟨_, rep_v.2 rfl, fun Q q => ⟨_, _, rfl, a, _, rfl, .inl (SqL.of h1), hx, h3, by cases neg <;> exact q⟩⟩
      · trivial
    · trivial
  · rename_i x ds
    split
    · rename_i hx
      split
      · rename_i xs e
        refine rv_ret fun vs H F C l s rs => ?_
        obtain ⟨v, w, rfl, q1, q2⟩ := vws2 rs
        obtain ⟨a, us, rfl, h1, h2⟩ := vw_tup l s q2
        obtain ⟨rfl, h3⟩ := flats_reps e h2
        obtain rfl := vw_v q1
        exact ⟨_, rep_v.2 rfl, fun Q q => ⟨_, _, rfl, a, _, rfl, .inr (SqT.of h1), hx, h3, by cases neg <;> exact q⟩⟩
      · trivial
    · trivial
  · trivial
theorem ok_in : POk K (r2L (rIn K false)) pIn := ok_inN
theorem ok_nin : POk K (r2L (rIn K true)) pNin := ok_inN
/-- one sign in a text -/
def pInS : List Dat → PR
  | [.v (.str y), .v (.str z)] => match y.cps.toList with
    | [c] => .d (dB (decide (c ∈ z.cps.toList)))
    | _ => .no
  | _ => .no
theorem str_one {y : Str} {c : Nat} (h : y.cps.toList = [c]) : y = ⟨#[c]⟩ := Str.ext' (by rw [h])
theorem ok_inS : POk K (r2L (fun x y H Q => ∃ (c : Nat) (z : Str), x = .str ⟨#[c]⟩ ∧ y = .str z ∧ Q (.bl (decide (c ∈ z.cps.toList))) H)) pInS := fun ds => by
  unfold pInS
  split
  · rename_i y z
    split
    · rename_i c e
      refine rv_ret fun vs H F C l s rs => ?_
      obtain ⟨v, w, rfl, q1, q2⟩ := vws2 rs
      exact ⟨_, rep_v.2 rfl, fun Q q => ⟨v, w, rfl, c, z, by rw [vw_v q1, str_one e], vw_v q2, q⟩⟩
    · trivial
  · trivial
/-! ### all, any, sorted, list, len -/
def bools : List Dat → Option (List Bool)
  | [] => some []
  | .v (.bl b) :: ds => match bools ds with
    | some bs => some (b :: bs)
    | none => none
  | _ :: _ => none
def texts : List Dat → Option (List Str)
  | [] => some []
  | .v (.str b) :: ds => match texts ds with
    | some bs => some (b :: bs)
    | none => none
  | _ :: _ => none
def intsD : List Dat → Option (List Int)
  | [] => some []
  | .v (.int b) :: ds => match intsD ds with
    | some bs => some (b :: bs)
    | none => none
  | _ :: _ => none
theorem bools_eq : ∀ {ds : List Dat} {bs : List Bool}, bools ds = some bs → ds = bs.map dB
  | [], bs, h => by cases h; rfl
  | d :: ds, bs, h => by
    unfold bools at h
    split at h
    · rename_i e; cases e
    · rename_i b ds' e
      cases e
      split at h
      · rename_i bs' e; cases h; rw [bools_eq e] <;> rfl
      · cases h
    · cases h
theorem texts_eq : ∀ {ds : List Dat} {bs : List Str}, texts ds = some bs → ds = bs.map dS
  | [], bs, h => by cases h; rfl
  | d :: ds, bs, h => by
    unfold texts at h
    split at h
    · rename_i e; cases e
    · rename_i b ds' e
      cases e
      split at h
      · rename_i bs' e; cases h; rw [texts_eq e] <;> rfl
      · cases h
    · cases h
theorem intsD_eq : ∀ {ds : List Dat} {bs : List Int}, intsD ds = some bs → ds = bs.map dI
  | [], bs, h => by cases h; rfl
  | d :: ds, bs, h => by
    unfold intsD at h
    split at h
    · rename_i e; cases e
    · rename_i b ds' e
      cases e
      split at h
      · rename_i bs' e; cases h; rw [intsD_eq e] <;> rfl
      · cases h
    · cases h
theorem reps_ints {F : Hp} {ms : List Int} {vs : List V} (h : Reps K F (ms.map dI) vs) : vs = ms.map V.int := by
  rw [show ms.map dI = (ms.map V.int).map Dat.v from by rw [List.map_map] <;> rfl] at h
  exact reps_v h
def pAll : List Dat → PR
  | [.lst ds] => match bools ds with
    | some bs => .d (dB (bs.all id))
    | none => .no
  | _ => .no
def pAny : List Dat → PR
  | [.lst ds] => match bools ds with
    | some bs => .d (dB (bs.any id))
    | none => .no
  | _ => .no
theorem ok_all : POk K (rAll K) pAll := fun ds => by
  unfold pAll
  split
  · split
    · rename_i bs e
      obtain rfl := bools_eq e
      refine rv_ret fun vs H F C l s rs => ?_
      obtain ⟨v, rfl, q1⟩ := vws1 rs
      obtain ⟨a, us, rfl, h1, h2⟩ := vw_lst l s q1
      obtain rfl := reps_bls h2
      exact ⟨_, rep_v.2 rfl, fun Q q => ⟨a, bs, rfl, SqL.of h1, q⟩⟩
    · trivial
  · trivial
theorem ok_any : POk K (rAny K) pAny := fun ds => by
  unfold pAny
  split
  · split
    · rename_i bs e
      obtain rfl := bools_eq e
      refine rv_ret fun vs H F C l s rs => ?_
      obtain ⟨v, rfl, q1⟩ := vws1 rs
      obtain ⟨a, us, rfl, h1, h2⟩ := vw_lst l s q1
      obtain rfl := reps_bls h2
      exact ⟨_, rep_v.2 rfl, fun Q q => ⟨a, bs, rfl, SqL.of h1, q⟩⟩
    · trivial
  · trivial
def pSum : List Dat → PR
  | [.lst ds] => match intsD ds with
    | some bs => .d (dI bs.sum)
    | none => .no
  | _ => .no
theorem ok_sum : POk K (rSum K) pSum := fun ds => by
  unfold pSum
  split
  · split
    · rename_i bs e
      obtain rfl := intsD_eq e
      refine rv_ret fun vs H F C l s rs => ?_
      obtain ⟨v, rfl, q1⟩ := vws1 rs
      obtain ⟨a, us, rfl, h1, h2⟩ := vw_lst l s q1
      obtain rfl := reps_ints h2
      exact ⟨_, rep_v.2 rfl, fun Q q => ⟨a, bs, rfl, SqL.of h1, q⟩⟩
    · trivial
  · trivial
def pSortS : List Dat → PR
  | [.lst ds] => match texts ds with
    | some ms => match decide (ms.length < 64) with
      | true => .n (.lst ((srt ms).map dS))
      | false => .no
    | none => .no
  | _ => .no
theorem ok_sortS : POk K (rSortedS K) pSortS := fun ds => by
  unfold pSortS
  split
  · split
    · rename_i ms e
      obtain rfl := texts_eq e
      split
      · rename_i hl
        refine ⟨_, rfl, rv_new fun vs H F C l s rs => ?_⟩
        obtain ⟨v, rfl, q1⟩ := vws1 rs
        obtain ⟨a, us, rfl, h1, h2⟩ := vw_lst l s q1
        obtain rfl := reps_strs h2
        refine ⟨.lst ((srt ms).map V.str), ⟨_, rfl, reps_mkS _⟩, fun Q q => ⟨a, ms, rfl, SqL.of h1, of_decide_eq_true hl, fun ys p hp hs hn => ?_⟩⟩
        rw [sortedS_srt hp hs]
        exact q p hn
      · trivial
    · trivial
  · trivial
/-- the keys of a dict, all texts -/
def rSortedD (K : PySem.W.Frag) : List V → Hp → VK → Prop := fun xs H Q => ∃ (a : Addr) (kvs : List (Key × V)) (ks : List Str), xs = [.ref a] ∧ Rd H a (.dK kvs) ∧ kvs.map (·.1) = ks.map Sum.inr ∧ ks.length < 64 ∧
    ∀ ys p, ys.Perm ks → sortedS ys = true → H p = none → Q (.ref p) (upd H p (.lst (ys.map V.str)))
theorem call_sortedD' {X : Cx} (hcalm : X.calm = true) : CallR X (.builtin "sorted") (rSortedD X.K) := call_sortedD hcalm
theorem repK_keys {F : Hp} : ∀ {kvs : List (Key × Dat)} {vs : List (Key × V)}, RepK K F kvs vs → vs.map (·.1) = kvs.map (·.1)
  | [], vs, h => by rw [repK_nil.1 h] <;> rfl
  | (k, d) :: ds, vs, h => by
    obtain ⟨v, r, rfl, _, h2⟩ := repK_cons.1 h
    rw [List.map_cons, List.map_cons, repK_keys h2]
def keysS : List (Key × Dat) → Option (List Str)
  | [] => some []
  | (.inr z, _) :: r => match keysS r with
    | some zs => some (z :: zs)
    | none => none
  | (.inl _, _) :: _ => none
theorem keysS_eq : ∀ {kvs : List (Key × Dat)} {zs : List Str}, keysS kvs = some zs → kvs.map (·.1) = zs.map Sum.inr
  | [], zs, h => by cases h; rfl
  | (.inr z, _) :: r, zs, h => by
    simp only [keysS] at h
    split at h
    · rename_i ys e; cases h; rw [List.map_cons, List.map_cons, keysS_eq e]
    · cases h
  | (.inl _, _) :: _, zs, h => by simp [keysS] at h
def pSortD : List Dat → PR
  | [.dK kvs] => match keysS kvs with
    | some ms => match decide (ms.length < 64) with
      | true => .n (.lst ((srt ms).map dS))
      | false => .no
    | none => .no
  | _ => .no
theorem ok_sortD : POk K (rSortedD K) pSortD := fun ds => by
  unfold pSortD
  split
  · split
    · rename_i ms e
      split
      · rename_i hl
        refine ⟨_, rfl, rv_new fun vs H F C l s rs => ?_⟩
        obtain ⟨v, rfl, q1⟩ := vws1 rs
        obtain ⟨a, us, rfl, h1, h2⟩ := vw_dK l s q1
        refine ⟨.lst ((srt ms).map V.str), ⟨_, rfl, reps_mkS _⟩, fun Q q => ⟨a, us, ms, rfl, h1, (repK_keys h2).trans (keysS_eq e), of_decide_eq_true hl, fun ys p hp hs hn => ?_⟩⟩
        rw [sortedS_srt hp hs]
        exact q p hn
      · trivial
    · trivial
  · trivial
def rListOf (K : PySem.W.Frag) : List V → Hp → VK → Prop := fun xs H Q => ∃ p ys, xs = [.ref p] ∧ (SqL K H p ys ∨ SqT K H p ys) ∧ ∀ l, H l = none → Q (.ref l) (upd H l (.lst ys))
theorem call_listOf {X : Cx} : CallR X (.type "list") (rListOf X.K) := call_list_of
def pList : List Dat → PR
  | [.lst ds] => .n (.lst ds)
  | [.tup ds] => .n (.lst ds)
  | _ => .no
theorem ok_list : POk K (rListOf K) pList := fun ds => by
  unfold pList
  split
  · refine ⟨_, rfl, rv_new fun vs H F C l s rs => ?_⟩
    obtain ⟨v, rfl, q1⟩ := vws1 rs
    obtain ⟨a, us, rfl, h1, h2⟩ := vw_lst l s q1
    exact ⟨.lst us, ⟨_, rfl, h2⟩, fun Q q => ⟨a, us, rfl, .inl (SqL.of h1), q⟩⟩
  · refine ⟨_, rfl, rv_new fun vs H F C l s rs => ?_⟩
    obtain ⟨v, rfl, q1⟩ := vws1 rs
    obtain ⟨a, us, rfl, h1, h2⟩ := vw_tup l s q1
    exact ⟨.lst us, ⟨_, rfl, h2⟩, fun Q q => ⟨a, us, rfl, .inr (SqT.of h1), q⟩⟩
  · trivial
def rListD (K : PySem.W.Frag) : List V → Hp → VK → Prop := fun xs H Q => ∃ (a : Addr) (kvs : List (Key × V)), xs = [.ref a] ∧ Rd H a (.dK kvs) ∧ ∀ p, H p = none → Q (.ref p) (upd H p (.lst (kvs.map fun kv => kV kv.1)))
theorem call_listDk {X : Cx} (hcalm : X.calm = true) : CallR X (.type "list") (rListD X.K) := call_listD hcalm
theorem reps_keys {F : Hp} : ∀ {kvs : List (Key × Dat)} {us : List (Key × V)}, RepK K F kvs us → Reps K F (kvs.map fun p => kD p.1) (us.map fun kv => kV kv.1)
  | [], us, h => by rw [repK_nil.1 h]; exact reps_nil.2 rfl
  | (k, d) :: kvs, us, h => by
    obtain ⟨v, r, rfl, _, h2⟩ := repK_cons.1 h
    exact reps_cons.2 ⟨_, _, rfl, kD_rep k, reps_keys h2⟩
def pListD : List Dat → PR
  | [.dK kvs] => .n (.lst (kvs.map fun p => kD p.1))
  | _ => .no
theorem ok_listD : POk K (rListD K) pListD := fun ds => by
  unfold pListD
  split
  · refine ⟨_, rfl, rv_new fun vs H F C l s rs => ?_⟩
    obtain ⟨v, rfl, q1⟩ := vws1 rs
    obtain ⟨a, us, rfl, h1, h2⟩ := vw_dK l s q1
    exact ⟨.lst _, ⟨_, rfl, reps_keys h2⟩, fun Q q => ⟨a, us, rfl, h1, q⟩⟩
  · trivial
def rDictD : List V → Hp → VK → Prop := fun xs H Q => ∃ (a : Addr) (kvs : List (Key × V)), xs = [.ref a] ∧ Rd H a (.dK kvs) ∧ ∀ p, H p = none → Q (.ref p) (upd H p (.dK kvs))
theorem call_dictDk {X : Cx} : CallR X (.type "dict") rDictD := call_dictD
def pDictD : List Dat → PR
  | [.dK kvs] => .n (.dK kvs)
  | _ => .no
theorem ok_dictD : POk K rDictD pDictD := fun ds => by
  unfold pDictD
  split
  · refine ⟨_, rfl, rv_new fun vs H F C l s rs => ?_⟩
    obtain ⟨v, rfl, q1⟩ := vws1 rs
    obtain ⟨a, us, rfl, h1, h2⟩ := vw_dK l s q1
    exact ⟨.dK us, ⟨_, rfl, h2⟩, fun Q q => ⟨a, us, rfl, h1, q⟩⟩
  · trivial
/-- dict of pairs -/
def rDictP (K : PySem.W.Frag) : List V → Hp → VK → Prop := fun xs H Q => ∃ (a : Addr) (ps : List Addr) (kvs : List (Key × V)), xs = [.ref a] ∧ SqL K H a (ps.map V.ref) ∧ Paired (fun p kv => SqT K H p [kV kv.1, kv.2]) ps kvs ∧ ∀ p, H p = none → Q (.ref p) (upd H p (.dK (mergeK [] kvs)))
theorem call_dictPk {X : Cx} (hcalm : X.calm = true) : CallR X (.type "dict") (rDictP X.K) := call_dictP hcalm
def pairsD : List Dat → Option (List (Key × Dat))
  | [] => some []
  | .tup [k, d] :: r => match keyOf k with
    | some key => match pairsD r with
      | some kvs => some ((key, d) :: kvs)
      | none => none
    | none => none
  | _ :: _ => none
theorem pairs_reps (l : Le F H) : ∀ {ds : List Dat} {kvs : List (Key × Dat)} {us : List V}, pairsD ds = some kvs → Reps K F ds us → ∃ (ps : List Addr) (ws : List (Key × V)), us = ps.map V.ref ∧ Paired (fun p kv => SqT K H p [kV kv.1, kv.2]) ps ws ∧ RepK K F kvs ws
  | [], kvs, us, h, r => by cases h; exact ⟨[], [], reps_nil.1 r, .nil, repK_nil.2 rfl⟩
  | d :: ds, kvs, us, h, r => by
    obtain ⟨v, us', rfl, r1, r2⟩ := reps_cons.1 r
    unfold pairsD at h
    split at h
    · rename_i e; cases e
    · rename_i k e ds' eq
      cases eq
      split at h
      · rename_i key hk
        obtain rfl := keyOf_kD hk
        split at h
        · rename_i kvs' e2
          cases h
          obtain ⟨ps, ws, rfl, h1, h2⟩ := pairs_reps l e2 r2
          obtain ⟨a, xs, rfl, h3, h4⟩ := rep_tup.1 r1
          obtain ⟨x, y, rfl, q1, q2⟩ := reps2 h4
          obtain rfl := kD_v q1
          exact ⟨a :: ps, (key, y) :: ws, rfl, .cons (SqT.of (l.tup h3)) h1, repK_cons.2 ⟨y, ws, rfl, q2, h2⟩⟩
        · cases h
      · cases h
    · cases h
theorem repK_fold {F : Hp} : ∀ {kvs : List (Key × Dat)} {ws : List (Key × V)} {acc : List (Key × Dat)} {bcc : List (Key × V)}, RepK K F kvs ws → RepK K F acc bcc → RepK K F (kvs.foldl (fun acc p => putKD acc p.1 p.2) acc) (ws.foldl (fun acc kv => putK acc kv.1 kv.2) bcc)
  | [], ws, acc, bcc, h, h2 => by rw [repK_nil.1 h]; exact h2
  | (k, d) :: kvs, ws, acc, bcc, h, h2 => by
    obtain ⟨v, r, rfl, q1, q2⟩ := repK_cons.1 h
    rw [List.foldl_cons, List.foldl_cons]
    exact repK_fold q2 (repK_put q1 h2)
def pDictP : List Dat → PR
  | [.lst ds] => match pairsD ds with
    | some kvs => .n (.dK (mkD kvs))
    | none => .no
  | _ => .no
theorem ok_dictP : POk K (rDictP K) pDictP := fun ds => by
  unfold pDictP
  split
  · split
    · rename_i kvs e
      refine ⟨_, rfl, rv_new fun vs H F C l s rs => ?_⟩
      obtain ⟨v, rfl, q1⟩ := vws1 rs
      obtain ⟨a, us, rfl, h1, h2⟩ := vw_lst l s q1
      obtain ⟨ps, ws, rfl, h3, h4⟩ := pairs_reps l e h2
      exact ⟨.dK _, ⟨_, rfl, repK_fold h4 (repK_nil.2 rfl)⟩, fun Q q => ⟨a, ps, ws, rfl, SqL.of h1, h3, q⟩⟩
    · trivial
  · trivial
def rLenA (K : PySem.W.Frag) : List V → Hp → VK → Prop := fun xs H Q => (∃ x n, xs = [x] ∧ LenV K x H n ∧ Q (.int n) H) ∨ ∃ a kvs, xs = [.ref a] ∧ Rd H a (.dK kvs) ∧ Q (.int kvs.length) H
theorem call_lenA {X : Cx} : CallR X (.builtin "len") (rLenA X.K) := by
  intro pins s σ H xs us Q I r h
  rcases h with h | ⟨a, kvs, rfl, ha, q⟩
  · exact call_len pins s σ H xs us Q I r h
  · obtain ⟨u, rfl, ru⟩ := vals1 r
    cases ru
    exact d_len I ha fun t s' I' => ⟨.int kvs.length, H, I', ⟨t, rfl⟩, q⟩
def pLen : List Dat → PR
  | [.lst ds] => .d (dI (ds.length : Nat))
  | [.tup ds] => .d (dI (ds.length : Nat))
  | [.dK ds] => .d (dI (ds.length : Nat))
  | [.scr ds] => .d (dI (ds.length : Nat))
  | [.v (.str z)] => match decide (z.length ≤ 100000) with
    | true => .d (dI (z.length : Nat))
    | false => .no
  | _ => .no
theorem ok_len : POk K (rLenA K) pLen := fun ds => by
  unfold pLen
  split
  · refine rv_ret fun vs H F C l s rs => ?_
    obtain ⟨v, rfl, q1⟩ := vws1 rs
    obtain ⟨a, us, rfl, h1, h2⟩ := vw_lst l s q1
    exact ⟨_, rep_v.2 rfl, fun Q q => .inl ⟨_, _, rfl, .inl ⟨us, SqL.of h1, reps_len h2⟩, q⟩⟩
  · refine rv_ret fun vs H F C l s rs => ?_
    obtain ⟨v, rfl, q1⟩ := vws1 rs
    obtain ⟨a, us, rfl, h1, h2⟩ := vw_tup l s q1
    exact ⟨_, rep_v.2 rfl, fun Q q => .inl ⟨_, _, rfl, .inr ⟨us, SqT.of h1, reps_len h2⟩, q⟩⟩
  · refine rv_ret fun vs H F C l s rs => ?_
    obtain ⟨v, rfl, q1⟩ := vws1 rs
    obtain ⟨a, us, rfl, h1, h2⟩ := vw_dK l s q1
    exact ⟨_, rep_v.2 rfl, fun Q q => .inr ⟨a, us, rfl, h1, by rw [← repK_len h2]; exact q⟩⟩
  · refine rv_ret fun vs H F C l s rs => ?_
    obtain ⟨v, rfl, q1⟩ := vws1 rs
    obtain ⟨a, rfl, h1⟩ := vw_scr l q1
    exact ⟨_, rep_v.2 rfl, fun Q q => .inl ⟨_, _, rfl, .inl ⟨_, h1, by rw [List.length_map]⟩, q⟩⟩
  · split
    · rename_i hz
      refine rv_ret fun vs H F C l s rs => ?_
      obtain ⟨v, rfl, q1⟩ := vws1 rs
      obtain rfl := vw_v q1
      exact ⟨_, rep_v.2 rfl, fun Q q => .inl ⟨_, _, rfl, ⟨by rw [sizeLine_eq]; have := of_decide_eq_true hz; omega, rfl⟩, q⟩⟩
    · trivial
  · trivial
/-! ### items -/
theorem at_reps {i : Int} {us : List V} {F : Hp} (h : atI ds i = some d) (r : Reps K F ds us) : ∃ v, atI us i = some v ∧ Rep K F d v := by
  unfold atI at h ⊢
  rw [← reps_len r]
  cases e : ixN ds.length i with
  | none => rw [e] at h; cases h
  | some n =>
    rw [e] at h
    exact reps_get' r (show ds[n]? = some d from h)
def pIxL : List Dat → PR
  | [.lst ds, .v (.int i)] => match atI ds i with
    | some d => .d d
    | none => .no
  | [.scr ns, .v (.int i)] => match atI ns i with
    | some n => .d (dI n)
    | none => .no
  | _ => .no
theorem ok_ixL : POk K (r2L (rIxL K)) pIxL := fun ds => by
  unfold pIxL
  split
  · rename_i ds i
    split
    · rename_i d e
      refine rv_ret fun vs H F C l s rs => ?_
      obtain ⟨v, w, rfl, q1, q2⟩ := vws2 rs
      obtain ⟨a, us, rfl, h1, h2⟩ := vw_lst l s q1
      obtain ⟨v, g1, g2⟩ := at_reps e h2
      exact ⟨v, g2, fun Q q => ⟨_, _, rfl, a, us, i, v, rfl, vw_v q2, SqL.of h1, g1, q⟩⟩
    · trivial
  · rename_i ns i
    split
    · rename_i n e
      refine rv_ret fun vs H F C l s rs => ?_
      obtain ⟨v, w, rfl, q1, q2⟩ := vws2 rs
      obtain ⟨a, rfl, h1⟩ := vw_scr l q1
      refine ⟨_, rep_v.2 rfl, fun Q q => ⟨_, _, rfl, a, _, i, _, rfl, vw_v q2, h1, ?_, q⟩⟩
      unfold atI at e ⊢
      rw [List.length_map]
      cases e2 : ixN ns.length i with
      | none => rw [e2] at e; cases e
      | some k =>
        rw [e2] at e
        show (ns.map V.int)[k]? = _
        rw [List.getElem?_map, show ns[k]? = some n from e] <;> rfl
    · trivial
  · trivial
def pIxT : List Dat → PR
  | [.tup ds, .v (.int i)] => match atI ds i with
    | some d => .d d
    | none => .no
  | _ => .no
theorem ok_ixT : POk K (r2L (rIxT K)) pIxT := fun ds => by
  unfold pIxT
  split
  · rename_i ds i
    split
    · rename_i d e
      refine rv_ret fun vs H F C l s rs => ?_
      obtain ⟨v, w, rfl, q1, q2⟩ := vws2 rs
      obtain ⟨a, us, rfl, h1, h2⟩ := vw_tup l s q1
      obtain ⟨v, g1, g2⟩ := at_reps e h2
      exact ⟨v, g2, fun Q q => ⟨_, _, rfl, a, us, i, v, rfl, vw_v q2, SqT.of h1, g1, q⟩⟩
    · trivial
  · trivial
def pIxS : List Dat → PR
  | [.v (.str z), .v (.int i)] => match decide (z.length ≤ 100000), atI z.cps.toList i with
    | true, some c => .d (dS ⟨#[c]⟩)
    | _, _ => .no
  | _ => .no
theorem ok_ixS : POk K (r2L rIxS) pIxS := fun ds => by
  unfold pIxS
  split
  · rename_i z i
    split
    · rename_i c hz e
      refine rv_ret fun vs H F C l s rs => ?_
      obtain ⟨v, w, rfl, q1, q2⟩ := vws2 rs
      exact ⟨_, rep_v.2 rfl, fun Q q => ⟨v, w, rfl, z, i, c, vw_v q1, vw_v q2, by rw [sizeLine_eq]; have := of_decide_eq_true hz; omega, e, q⟩⟩
    · trivial
  · trivial
/-! ### + and * of lists and texts -/
def pCat : List Dat → PR
  | [.lst ds, .lst es] => match decide (ds.length + es.length ≤ 100000) with
    | true => .n (.lst (ds ++ es))
    | false => .no
  | _ => .no
theorem ok_cat : POk K (r2L rCat) pCat := fun ds => by
  unfold pCat
  split
  · split
    · rename_i hl
      have hl := of_decide_eq_true hl
      refine ⟨_, rfl, rv_new fun vs H F C l s rs => ?_⟩
      obtain ⟨v, w, rfl, q1, q2⟩ := vws2 rs
      obtain ⟨a, us, rfl, h1, h2⟩ := vw_lst l s q1
      obtain ⟨b, ws, rfl, h3, h4⟩ := vw_lst l s q2
      have e1 := reps_len h2
      have e2 := reps_len h4
      exact ⟨.lst (us ++ ws), ⟨_, rfl, reps_app h2 h4⟩, fun Q q => ⟨_, _, rfl, a, b, us, ws, rfl, rfl, h1, h3, by rw [sizeLine_eq]; omega, q⟩⟩
    · trivial
  · trivial
theorem reps_rep {F : Hp} {us : List V} (h : Reps K F ds us) : ∀ n : Nat, Reps K F (List.replicate n ds).flatten (List.replicate n us).flatten
  | 0 => reps_nil.2 rfl
  | n + 1 => by
    rw [List.replicate_succ, List.replicate_succ, List.flatten_cons, List.flatten_cons]
    exact reps_app h (reps_rep h n)
def pRep : List Dat → PR
  | [.lst ds, .v (.int k)] => match decide (k.natAbs < 2 ^ 62) && decide (ds.length * k.toNat ≤ 100000) with
    | true => .n (.lst (List.replicate k.toNat ds).flatten)
    | false => .no
  | _ => .no
theorem ok_rep : POk K (r2L rRep) pRep := fun ds => by
  unfold pRep
  split
  · rename_i ds k
    split
    · rename_i hl
      simp only [Bool.and_eq_true, decide_eq_true_eq] at hl
      refine ⟨_, rfl, rv_new fun vs H F C l s rs => ?_⟩
      obtain ⟨v, w, rfl, q1, q2⟩ := vws2 rs
      obtain ⟨a, us, rfl, h1, h2⟩ := vw_lst l s q1
      have e1 := reps_len h2
      exact ⟨.lst _, ⟨_, rfl, reps_rep h2 _⟩, fun Q q => ⟨_, _, rfl, a, k, us, rfl, vw_v q2, h1, by omega, by omega, by rw [← e1, sizeLine_eq]; omega, q⟩⟩
    · trivial
  · trivial
def rMulS : R2 := fun x y H Q => ∃ z n, x = .str z ∧ y = .int n ∧ MulOk z n ∧ Q (.str (Txt.mul z n)) H
theorem op_mulS {X : Cx} : OpR X (binaryOp .Mult) rMulS := by
  intro pins s σ H x y v u Q I rx ry h
  obtain ⟨z, n, rfl, rfl, hok, q⟩ := h
  obtain ⟨t, rfl⟩ := rx
  obtain ⟨t', rfl⟩ := ry
  exact PySem.SB.mul hok fun t' k => ⟨.str _, H, I.tok _, ⟨_, rfl⟩, q⟩
def mulSB (z : Str) (n : Int) : Bool := decide (0 ≤ n) && decide (n ≤ 10000) && decide (z.length ≤ 1000)
theorem tooLong_f {n : Nat} (h : n ≤ 10000000) : Builtin.Str.tooLong n = false := by
  unfold Builtin.Str.tooLong
  have := sizeLine_eq
  simp only [decide_eq_false_iff_not]
  omega
theorem mulS_ok {z : Str} {n : Int} (h : mulSB z n = true) : MulOk z n := by
  unfold mulSB at h
  simp only [Bool.and_eq_true, decide_eq_true_eq] at h
  obtain ⟨⟨h0, h1⟩, h2⟩ := h
  refine ⟨?_, fun h3 h4 => ?_, fun h3 h4 => ?_⟩
  · simp only [Bool.or_eq_false_iff, decide_eq_false_iff_not]
    omega
  · have : ((2 ^ 63 - 1 : Int) / n) ≥ 1000 := by
      apply Int.le_ediv_of_mul_le (by omega)
      omega
    omega
  · refine tooLong_f ?_
    have : n.toNat ≤ 10000 := by omega
    calc z.length * n.toNat ≤ 1000 * 10000 := Nat.mul_le_mul h2 this
      _ ≤ 10000000 := by decide
def pMulS : List Dat → PR
  | [.v (.str z), .v (.int n)] => match mulSB z n with
    | true => .d (dS (Txt.mul z n))
    | false => .no
  | _ => .no
theorem ok_mulS : POk K (r2L rMulS) pMulS := fun ds => by
  unfold pMulS
  split
  · rename_i z n
    split
    · rename_i h
      refine rv_ret fun vs H F C l s rs => ?_
      obtain ⟨v, w, rfl, q1, q2⟩ := vws2 rs
      exact ⟨_, rep_v.2 rfl, fun Q q => ⟨v, w, rfl, z, n, vw_v q1, vw_v q2, mulS_ok h, q⟩⟩
    · trivial
  · trivial
def rAddS' : R2 := fun x y H Q => ∃ i j, x = .str i ∧ y = .str j ∧ i.length + j.length ≤ sizeLine ∧ Q (.str (i ++ j)) H
theorem op_addS {X : Cx} : OpR X (binaryOp .Add) rAddS' := op_add_str
def pAddS : List Dat → PR
  | [.v (.str y), .v (.str z)] => match decide (y.length + z.length ≤ 100000) with
    | true => .d (dS (y ++ z))
    | false => .no
  | _ => .no
theorem ok_addS : POk K (r2L rAddS') pAddS := fun ds => by
  unfold pAddS
  split
  · rename_i y z
    split
    · rename_i h
      have h := of_decide_eq_true h
      refine rv_ret fun vs H F C l s rs => ?_
      obtain ⟨v, w, rfl, q1, q2⟩ := vws2 rs
      exact ⟨_, rep_v.2 rfl, fun Q q => ⟨v, w, rfl, y, z, vw_v q1, vw_v q2, by rw [sizeLine_eq]; omega, q⟩⟩
    · trivial
  · trivial
/-! ### max, min, int, isinstance -/
def rMax2 : List V → Hp → VK → Prop := fun xs H Q => ∃ i j, xs = [.int i, .int j] ∧ Q (.int (if j > i then j else i)) H
def rMin2 : List V → Hp → VK → Prop := fun xs H Q => ∃ i j, xs = [.int i, .int j] ∧ Q (.int (if j < i then j else i)) H
theorem call_max2' {X : Cx} (hc : X.calm = true) : CallR X (.builtin "max") rMax2 := call_max2 hc
theorem call_min2' {X : Cx} (hc : X.calm = true) : CallR X (.builtin "min") rMin2 := call_min2 hc
abbrev pMax := iP fun i j => .int (if j > i then j else i)
abbrev pMin := iP fun i j => .int (if j < i then j else i)
theorem ok_max2 : POk K rMax2 pMax := fun ds => by
  unfold pMax iP
  split
  · rename_i i j
    refine rv_ret fun vs H F C l s rs => ?_
    obtain ⟨v, w, rfl, q1, q2⟩ := vws2 rs
    exact ⟨_, rep_v.2 rfl, fun Q q => ⟨i, j, by rw [vw_v q1, vw_v q2], q⟩⟩
  · trivial
theorem ok_min2 : POk K rMin2 pMin := fun ds => by
  unfold pMin iP
  split
  · rename_i i j
    refine rv_ret fun vs H F C l s rs => ?_
    obtain ⟨v, w, rfl, q1, q2⟩ := vws2 rs
    exact ⟨_, rep_v.2 rfl, fun Q q => ⟨i, j, by rw [vw_v q1, vw_v q2], q⟩⟩
  · trivial
def rInt1 : List V → Hp → VK → Prop := fun xs H Q => (∃ i, xs = [.int i] ∧ Q (.int i) H) ∨ ∃ k, xs = [.bl k] ∧ Q (.int (if k then 1 else 0)) H
theorem call_int1' {X : Cx} : CallR X (.type "int") rInt1 := call_int1
def pInt : List Dat → PR
  | [.v (.int i)] => .d (dI i)
  | [.v (.bl b)] => .d (dI (if b then 1 else 0))
  | _ => .no
theorem ok_int : POk K rInt1 pInt := fun ds => by
  unfold pInt
  split
  · refine rv_ret fun vs H F C l s rs => ?_
    obtain ⟨v, rfl, q1⟩ := vws1 rs
    exact ⟨_, rep_v.2 rfl, fun Q q => .inl ⟨_, by rw [vw_v q1], q⟩⟩
  · refine rv_ret fun vs H F C l s rs => ?_
    obtain ⟨v, rfl, q1⟩ := vws1 rs
    exact ⟨_, rep_v.2 rfl, fun Q q => .inr ⟨_, by rw [vw_v q1], q⟩⟩
  · trivial
/-- isinstance of a built-in type -/
def isBt (n T : String) : Bool := n == T || (n == "bool" && T == "int")
def pIsi : List Dat → PR
  | [d, .v (.ty T)] => match kindD d, decide (T ∈ TYS) with
    | some (.bt n), true => .d (dB (isBt n T))
    | some (.own c), true => match decide (c ∈ CLS) with
      | true => .d (dB false)
      | false => .no
    | _, _ => .no
  | [d, .glb D] => match kindD d, decide (D ∈ CLS) with
    | some (.bt _), true => .d (dB false)
    | some (.own c), true => match decide (c ∈ CLS) with
      | true => .d (dB (isSub c D))
      | false => .no
    | _, _ => .no
  | _ => .no
theorem bt_kit {n T : String} (hn : n ∈ TYS7) (hT : T ∈ TYS) : PySem.W.kitOne K (.type n) (.type T) = some (isBt n T) := by
  have h : ∀ n ∈ TYS7, ∀ T ∈ TYS, kitB n T = some (isBt n T) := by decide +kernel
  exact kit_ty (h n hn T hT)
theorem kd_vw (t : Tab K) {kd : Kd} (h : kindD d = some kd) (hk : kdOk kd = true) (l : Le F H) (s : CSat K C H F) (r : Vw K C F d v) : TyX K H v (tyOf K kd) ∧ ∀ c, kd = .own c → hasCls K c := by
  rcases r with r | ⟨a, c, rfl, hm, hc⟩
  · exact kd_d t h hk l r
  · obtain ⟨_, o, h1, h2⟩ := s.at_ _ _ hm
    subst hc
    cases c with
    | lst ds => cases h; obtain ⟨us, rfl, _⟩ := h2; exact ⟨.base (.lst h1), fun c e => by cases e⟩
    | dK ds => cases h; obtain ⟨us, rfl, _⟩ := h2; exact ⟨.base (.dK h1), fun c e => by cases e⟩
    | ins n fs =>
      cases h
      obtain ⟨dx, us, rfl, _, hc⟩ := h2
      exact ⟨(t.own _ (of_decide_eq_true hk) hc).ty t.z h1, fun c e => by cases e; exact hc⟩
    | xd fs => cases h
theorem ok_isi (t : Tab K) : POk K (rIsi K) pIsi := fun ds => by
  unfold pIsi
  split
  · rename_i d T
    split
    · rename_i n hk hT
      refine rv_ret fun vs H F C l s rs => ?_
      obtain ⟨v, w, rfl, q1, q2⟩ := vws2 rs
      exact ⟨_, rep_v.2 rfl, fun Q q => ⟨v, w, .type n, .type T, _, rfl, by rw [vw_v q2]; exact .ty T, (kd_vw t hk rfl l s q1).1, bt_kit (kindD_bt hk) (of_decide_eq_true hT), q⟩⟩
    · rename_i c hk hT
      split
      · rename_i hc
        refine rv_ret fun vs H F C l s rs => ?_
        obtain ⟨v, w, rfl, q1, q2⟩ := vws2 rs
        obtain ⟨h1, h2⟩ := kd_vw t hk hc l s q1
        exact ⟨_, rep_v.2 rfl, fun Q q => ⟨v, w, _, .type T, _, rfl, by rw [vw_v q2]; exact .ty T, h1, t.ty _ (of_decide_eq_true hc) (h2 c rfl) T (of_decide_eq_true hT), q⟩⟩
      · trivial
    · trivial
  · rename_i d D
    split
    · rename_i n hk hD
      refine rv_ret fun vs H F C l s rs => ?_
      obtain ⟨v, w, rfl, q1, q2⟩ := vws2 rs
      obtain ⟨e, hcl⟩ := vw_glb q2
      exact ⟨_, rep_v.2 rfl, fun Q q => ⟨v, w, .type n, _, _, rfl, by rw [e]; exact .own _, (kd_vw t hk rfl l s q1).1, t.bt _ (of_decide_eq_true hD) hcl n (kindD_bt hk), q⟩⟩
    · rename_i c hk hD
      split
      · rename_i hc
        refine rv_ret fun vs H F C l s rs => ?_
        obtain ⟨v, w, rfl, q1, q2⟩ := vws2 rs
        obtain ⟨e, hcl⟩ := vw_glb q2
        obtain ⟨h1, h2⟩ := kd_vw t hk hc l s q1
        exact ⟨_, rep_v.2 rfl, fun Q q => ⟨v, w, _, _, _, rfl, by rw [e]; exact .own _, h1, t.is _ (of_decide_eq_true hc) _ (of_decide_eq_true hD) (h2 c rfl) hcl, q⟩⟩
      · trivial
    · trivial
  · trivial
/-! ### methods that change lists -/
def appP (ds : List Dat) : List Dat → Option (Dat × List Dat)
  | [d] => match decide (ds.length < 100000) with
    | true => some (dN, ds ++ [d])
    | false => none
  | _ => none
theorem mt_app : MtL K rAppend appP := fun ds es d ds' h a us vs H F l hH r1 r2 => by
  unfold appP at h
  split at h
  · split at h
    · rename_i hl
      cases h
      obtain ⟨v, rfl, q⟩ := reps1 r2
      have hl := of_decide_eq_true hl
      have e := reps_len r1
      exact ⟨us ++ [v], .non, reps_app r1 (reps_cons.2 ⟨v, [], rfl, q, reps_nil.2 rfl⟩), rep_v.2 rfl, fun Q q => ⟨a, us, v, rfl, rfl, hH, by rw [sizeLine_eq]; omega, q⟩⟩
    · cases h
  · cases h
def popP (ds : List Dat) : List Dat → Option (Dat × List Dat)
  | [] => match ds[ds.length - 1]? with
    | some d => some (d, ds.dropLast)
    | none => none
  | _ => none
theorem reps_dropLast {F : Hp} {us : List V} (r : Reps K F ds us) : Reps K F ds.dropLast us.dropLast := by
  rw [List.dropLast_eq_take, List.dropLast_eq_take, reps_len r]
  exact reps_take _ r
theorem mt_popL : MtL K rPop popP := fun ds es d ds' h a us vs H F l hH r1 r2 => by
  unfold popP at h
  split at h
  · split at h
    · rename_i d' e
      cases h
      obtain ⟨v, q1, q2⟩ := reps_get' r1 e
      rw [reps_len r1] at q1
      exact ⟨_, v, reps_dropLast r1, q2, fun Q q => ⟨a, us, v, rfl, reps_nil.1 r2, hH, q1, q⟩⟩
    · cases h
  · cases h
def popAtP (ds : List Dat) : List Dat → Option (Dat × List Dat)
  | [.v (.int i)] => match decide (i.natAbs < 2 ^ 62), seqIndex? i ds.length with
    | true, some k => match ds[k]? with
      | some d => some (d, ds.eraseIdx k)
      | none => none
    | _, _ => none
  | _ => none
theorem reps_erase {F : Hp} : ∀ {k : Nat} {ds : List Dat} {us : List V}, Reps K F ds us → Reps K F (ds.eraseIdx k) (us.eraseIdx k)
  | _, [], us, h => by rw [reps_nil.1 h]; exact reps_nil.2 rfl
  | 0, e :: ds, us, h => by
    obtain ⟨w, r, rfl, _, h2⟩ := reps_cons.1 h
    exact h2
  | j + 1, e :: ds, us, h => by
    obtain ⟨w, r, rfl, h1, h2⟩ := reps_cons.1 h
    exact reps_cons.2 ⟨w, _, rfl, h1, reps_erase (k := j) h2⟩
theorem mt_popAtL : MtL K rPopAt popAtP := fun ds es d ds' h a us vs H F l hH r1 r2 => by
  unfold popAtP at h
  split at h
  · rename_i i
    split at h
    · rename_i k hi hk
      have hi := of_decide_eq_true hi
      split at h
      · rename_i d' e
        cases h
        obtain ⟨v, q1, q2⟩ := reps_get' r1 e
        obtain ⟨w, rfl, q3⟩ := reps1 r2
        exact ⟨_, v, reps_erase r1, q2, fun Q q => ⟨a, us, i, k, v, rfl, by rw [rep_v.1 q3], hH, by omega, by omega, by rw [← reps_len r1]; exact hk, q1, q⟩⟩
      · cases h
    · cases h
  · cases h
def extP (ds : List Dat) : List Dat → Option (Dat × List Dat)
  | [.lst es] => match decide (ds.length + es.length ≤ 100000) with
    | true => some (dN, ds ++ es)
    | false => none
  | _ => none
theorem mt_ext : MtL K rExtend extP := fun ds es d ds' h a us vs H F l hH r1 r2 => by
  unfold extP at h
  split at h
  · split at h
    · rename_i hl
      cases h
      have hl := of_decide_eq_true hl
      obtain ⟨v, rfl, q⟩ := reps1 r2
      obtain ⟨b, ws, rfl, h1, h2⟩ := rep_lst.1 q
      have e1 := reps_len r1
      have e2 := reps_len h2
      exact ⟨_, .non, reps_app r1 h2, rep_v.2 rfl, fun Q q => ⟨a, b, us, ws, rfl, rfl, hH, l.lst h1, by rw [sizeLine_eq]; omega, q⟩⟩
    · cases h
  · cases h
def clrP (_ : List Dat) : List Dat → Option (Dat × List Dat)
  | [] => some (dN, [])
  | _ => none
theorem mt_clr : MtL K rClear clrP := fun ds es d ds' h a us vs H F l hH r1 r2 => by
  unfold clrP at h
  split at h
  · cases h
    exact ⟨[], .non, reps_nil.2 rfl, rep_v.2 rfl, fun Q q => ⟨a, us, rfl, reps_nil.1 r2, hH, q⟩⟩
  · cases h
end
end Mr
end

section
set_option maxRecDepth 100000
set_option maxHeartbeats 4000000
/-! Mr8: two targets at once, dict displays, bool(o), exceptions in a suite, +=. -/
namespace Mr
open PySem L2 Dm PySem.Spec PyProof.Rows

/-- as a value; what is new becomes a cell, or is frozen -/
def XR.al (f : Bool) : XR → GX
  | .v x S => .v x S
  | .n c S => match f with
    | true => .v (.r S.length) (S ++ [c])
    | false => match frz c with
      | some d => .v (.p d) S
      | none => .bad
  | .ex e S => .ex e S
  | .bad => .bad
section
variable {K : PySem.W.Frag} {W : WX} {P : List (Nat × Addr)} {ρ ρ' : List Addr} {Γ Γ' : MEnv} {S S1 T : Store} {G : Gam} {C C0 C1 C2 R : Cells} {te ta tb tc to ti td ty tv : TE} {tt tu : TT} {m ma mb mo mi mv : ME} {c c' : Cell} {mc : MCell} {d d' : Dat} {x : Val} {i j k0 : Nat} {L L' : Cells} {as : List Addr} {F H : Hp} {v : V} {ds : List Dat} {a : Addr}
theorem al_run {e : Ent} {f : Bool} {r : XR} (h : XOk K W te ρ G C r) (o : OKr k0 ρ e.I) : match r.al f with
    | .v x S' => ∀ (σ : L2.St) (H F : Hp) (_ : AtF K e G C σ H F) (k : VK), (∀ ρ' d C' v H' F', ρ <+: ρ' → OKr k0 ρ' e.I → VR ρ' x d → SR ρ' S' C' → AtF K e G C' σ H' F' → Post C F H C' F' H' → Rep K F' d v → k v H') → te σ H k
    | .ex e' S' => ∃ C', SR ρ S' C' ∧ EvX K W te G C e' C'
    | .bad => True := by
  cases r with
  | v x S1 =>
    obtain ⟨d, C1, h1, h2, h3⟩ := h
    exact fun σ H F q k hk => h3 σ H F q.sa _ fun v H1 F1 p1 s1 r1 => hk ρ d C1 v H1 F1 (preR ρ) o h1 h2 (q.step p1 s1) p1 r1
  | n mc S1 =>
    cases f with
    | true =>
      obtain ⟨c, C1, h1, h2, h3⟩ := h
      intro σ H F q k hk
      refine h3 σ H F q.sa _ fun a H1 F1 p1 s1 hn => ?_
      have pre : ρ <+: ρ ++ [a] := List.prefix_append _ _
      refine hk (ρ ++ [a]) (dR a) _ _ H1 F1 pre (o.snoc fun m => noP q.po hn (e.hI a m)) ⟨a, ?_, rfl⟩ (h2.alloc h1) (q.step p1 s1) p1 (rep_v.2 rfl)
      rw [← h2.len, List.getElem?_append_right (Nat.le_refl _), Nat.sub_self] <;> rfl
    | false =>
      unfold XR.al
      dsimp only
      split
      · rename_i x S' e1
        split at e1
        · rename_i d hf
          cases e1
          obtain ⟨d, C1, h1, h2, h3⟩ := h.n_v hf
          exact fun σ H F q k hk => h3 σ H F q.sa _ fun v H1 F1 p1 s1 r1 => hk ρ d C1 v H1 F1 (preR ρ) o h1 h2 (q.step p1 s1) p1 r1
        · cases e1
      · rename_i e' S' e1
        split at e1 <;> cases e1
      · trivial
  | ex e' S1 => exact h
  | bad => trivial
/-- a, b = e, e' -/
def parM (i j : Nat) (fa fb : Bool) (ma mb : ME) : MS := fun Γ S => match (ma Γ S).al fa with
  | .v x S1 => match (mb Γ S1).al fb with
    | .v y S2 => .nx ((Γ.set i (some x)).set j (some y)) S2
    | _ => .bad
  | .ex e S1 => .ex e Γ S1
  | .bad => .bad
theorem rm_par {fa fb : Bool} (ha : EM K W P ta ma) (hb : EM K W P tb mb) : RM K W P k0 (tPar i j (tCons ta (tCons tb tNil))) (parM i j fa fb ma mb) := fun ρ Γ S G C e B g s o hr => by
  have h0 := al_run (f := fa) (ha ρ Γ S G C g s) o
  unfold parM at hr
  revert h0 hr
  cases (ma Γ S).al fa with
  | v x S1 =>
    intro hr h0 σ H D ⟨F, q⟩ E
    refine h0 σ H F q _ fun ρ1 d1 C1 v H1 F1 p1 o1 v1 s1 q1 po1 r1 => ?_
    have h1 := al_run (f := fb) (hb ρ1 Γ S1 G C1 (g.mono p1) s1) o1
    revert h1 hr
    dsimp only
    cases (mb Γ S1).al fb with
    | v y S2 =>
      intro hr h1
      refine h1 σ H1 F1 q1 _ fun ρ2 d2 C2 w H2 F2 p2 o2 v2 s2 q2 po2 r2 => ?_
      exact ⟨v, w, rfl, E.nx _ _ _ _ (hr ρ2 _ C2 (p1.trans p2) o2 (((g.mono (p1.trans p2)).set (v1.mono p2)).set v2) s2) ⟨F2, q2.po, ⟨q2.sa.le, (q2.sa.gam.set (r1.kx po2.kx)).set r2, q2.sa.cel⟩, q2.ci⟩⟩
    | ex e' S2 => exact fun hr => hr.elim
    | bad => exact fun hr => hr.elim
  | ex e' S1 =>
    intro hr ⟨C1, h2, h3⟩ σ H D ⟨F, q⟩ E
    exact h3 σ H F q.sa _ fun dd C2 H1 F1 z1 p1 s1 => E.xc _ _ _ _ _ _ _ _ (hr ρ _ _ (preR ρ) o g h2) (z1.np q.po) (q.step p1 s1)
  | bad => exact fun hr => hr.elim
/-- x += e, ints -/
def augI (i : Nat) (g : Int → Int → Int) (m : ME) : MS := fun Γ S => match Γ[i]? with
  | some (some (.p (.v (.int a)))) => match m Γ S with
    | .v (.p (.v (.int b))) S1 => .nx (Γ.set i (some (.p (dI (g a b))))) S1
    | _ => .bad
  | _ => .bad
theorem rm_aug {g' : Int → Int → Int} (h : EM K W P te m) : RM K W P k0 (tAug i te (ipI g')) (augI i g' m) := fun ρ Γ S G C e B g s o hr => by
  unfold augI at hr
  split at hr
  · rename_i a ea
    obtain ⟨d0, e0, hv0⟩ := g.at_ i _ ea
    obtain rfl : d0 = dI a := hv0
    have h0 := h ρ Γ S G C g s
    split at hr
    · rename_i b S1 eb
      rw [eb] at h0
      obtain ⟨d1, C1, hv1, s1, e1⟩ := h0
      obtain rfl : d1 = dI b := hv1
      intro σ H D ⟨F, q⟩ E
      obtain ⟨v, g1, g2⟩ := q.sa.gam.at_ i _ e0
      obtain rfl := rep_v.1 g2
      refine ⟨_, g1, e1 σ H F q.sa _ fun w H1 F1 p1 t1 r1 => ?_⟩
      obtain rfl := rep_v.1 r1
      exact ⟨a, b, rfl, rfl, E.nx _ _ _ _ (hr ρ _ C1 (preR ρ) o (g.set (x := .p (dI (g' a b))) rfl) s1) ⟨F1, q.step p1 ⟨t1.le, t1.gam.set (rep_v.2 rfl), t1.cel⟩⟩⟩
    · exact hr.elim
  · exact hr.elim
/-- a slot's cell is frozen -/
def frzM (i : Nat) (b : MS) : MS := fun Γ S => match Γ[i]? with
  | some (some (.r k)) => match S[k]? with
    | some m => match frz m with
      | some d => b (Γ.set i (some (.p d))) (S.set k .gone)
      | none => .bad
    | none => .bad
  | some (some (.p _)) => b Γ S
  | _ => .bad
/-- {} -/
def dnewM : ME := fun _ S => .n (.dK []) S
theorem em_dnew : EM K W P tDNewK dnewM := fun ρ Γ S G C g s => ⟨.dK [], C, rfl, s, fun σ H F s Q q p hp => by
  obtain ⟨p2, l2, c2⟩ := post_new (c := .dK []) (o := .dK []) s.le s.cel hp ⟨[], rfl, repK_nil.2 rfl⟩
  exact q p _ F p2 ⟨l2, s.gam, c2⟩ hp⟩
/-- {k: v, ..} -/
def pairsM : List (ME × ME) → MEnv → Store → Option (List (Key × Dat) × Store)
  | [], _, S => some ([], S)
  | (mk, mv) :: ps, Γ, S => match (mk Γ S).pure with
    | .d kd S1 => match keyOf kd with
      | some k => match (mv Γ S1).pure with
        | .d d S2 => match pairsM ps Γ S2 with
          | some (kvs, S3) => some ((k, d) :: kvs, S3)
          | none => none
        | _ => none
      | none => none
    | _ => none
def dispM (ps : List (ME × ME)) : ME := fun Γ S => match pairsM ps Γ (S ++ [.dK []]) with
  | some (kvs, S1) => match decide (kvs.length ≤ 15), S1.drop S.length, backS (List.range S.length) (S1.take S.length) with
    | true, [.dK []], some _ => .n (.dK (mkD kvs)) (S1.take S.length)
    | _, _, _ => .bad
  | none => .bad
inductive PMs (K : PySem.W.Frag) (W : WX) (P : List (Nat × Addr)) : List (TE × TE) → List (ME × ME) → Prop where
  | nil : PMs K W P [] []
  | cons {tk tv : TE} {mk mv : ME} {ts : List (TE × TE)} {ms : List (ME × ME)} (hk : EM K W P tk mk) (hv : EM K W P tv mv) (t : PMs K W P ts ms) : PMs K W P ((tk, tv) :: ts) ((mk, mv) :: ms)
theorem pairs_ok {ts : List (TE × TE)} {ms : List (ME × ME)} (h : PMs K W P ts ms) : ∀ {S S' : Store} {C : Cells} {kvs : List (Key × Dat)}, GR P ρ Γ G → SR ρ S C → pairsM ms Γ S = some (kvs, S') → ∃ C', SR ρ S' C' ∧
    ∀ σ H F, Sat K G C σ H F → ∀ Q : List (V × V) → Hp → Prop, (∀ us H' F', Post C F H C' F' H' → Sat K G C' σ H' F' → RepK K F' kvs us → Q (us.map fun kv => (kV kv.1, kv.2)) H') → tPairs ts σ H Q := by
  induction h with
  | nil =>
    intro S S' C kvs g s e
    cases e
    exact ⟨C, s, fun σ H F s Q q => q [] H F Post.refl s (repK_nil.2 rfl)⟩
  | @cons tk tv mk mv ts ms hk hv t ih =>
    intro S S' C kvs g s e
    simp only [pairsM] at e
    have h1 := pure_ok (hk ρ Γ S G C g s)
    revert e h1
    cases (mk Γ S).pure with
    | d kd S1 =>
      intro e ⟨C1, s1, e1⟩
      dsimp only at e
      split at e
      · rename_i k hk'
        obtain rfl := keyOf_kD hk'
        have h2 := pure_ok (hv ρ Γ S1 G C1 g s1)
        revert e h2
        cases (mv Γ S1).pure with
        | d d S2 =>
          intro e ⟨C2, s2, e2⟩
          dsimp only at e
          split at e
          · rename_i kvs' S3 e3
            cases e
            obtain ⟨C3, s3, h3⟩ := ih g s2 e3
            refine ⟨C3, s3, fun σ H F s Q q => e1 σ H F s _ fun v H1 F1 p1 t1 r1 => e2 σ H1 F1 t1 _ fun w H2 F2 p2 t2 r2 => h3 σ H2 F2 t2 _ fun us H3 F3 p3 t3 r3 => ?_⟩
            obtain rfl := kD_v r1
            exact q ((k, w) :: us) H3 F3 ((p1.trans p2).trans p3) t3 (repK_cons.2 ⟨w, us, rfl, r2.kx p3.kx, r3⟩)
          · cases e
        | ex e' S2 => exact fun e => by cases e
        | bad => exact fun e => by cases e
      · cases e
    | ex e' S1 => exact fun e => by cases e
    | bad => exact fun e => by cases e
theorem asOf_range {a : Addr} : asOf (ρ ++ [a]) (List.range ρ.length) = ρ := by
  unfold asOf
  apply List.ext_getElem?
  intro k
  rw [List.getElem?_map]
  by_cases h : k < ρ.length
  · rw [List.getElem?_range h, Option.map_some, List.getD_eq_getElem?_getD, List.getElem?_append_left h, List.getElem?_eq_getElem h] <;> rfl
  · rw [List.getElem?_eq_none (by simp; omega), List.getElem?_eq_none (by omega)] <;> rfl
theorem SRL.uniq (h : SRL ρ as S L) (h' : SRL ρ as S L') : L = L' := h.fn (List.prefix_refl _) h'
theorem em_disp {ts : List (TE × TE)} {ms : List (ME × ME)} (h : PMs K W P ts ms) : EM K W P (tDisp ts) (dispM ms) := fun ρ Γ S G C g s => by
  unfold dispM
  split
  · rename_i kvs S1 e
    split
    · rename_i cs hl ec eb
      have hl := of_decide_eq_true hl
      have hlen := s.len
      have sp : S1 = S1.take S.length ++ [.dK []] := by rw [← ec, List.take_append_drop]
      obtain ⟨C', hC', _⟩ : ∃ L, SRL ρ ρ (S1.take S.length) L ∧ True := by
        obtain ⟨L, q, _⟩ := ex_sr (ρ := ρ ++ [0]) eb
        rw [← hlen, asOf_range] at q
        rw [← hlen]
        exact ⟨L, q, trivial⟩
      refine ⟨.dK (mkD kvs), C', rfl, ⟨C', hC', List.Perm.refl _⟩, fun σ H F t Q q p hp => ?_⟩
      obtain ⟨p1, l1, c1⟩ := post_new (c := .dK []) (o := .dK []) t.le t.cel hp ⟨[], rfl, repK_nil.2 rfl⟩
      have pre : ρ <+: ρ ++ [p] := List.prefix_append _ _
      obtain ⟨C2, s2, hr⟩ := pairs_ok h (g.mono pre) (s.alloc (a := p) (m := .dK []) (c := .dK []) rfl) e
      refine hr σ _ F ⟨l1, t.gam, c1⟩ _ fun us H2 F2 p2 t2 r2 => ?_
      have hp2 : C2.Perm ((p, .dK []) :: C') := by
        obtain ⟨L2, u1, u2⟩ := s2
        rw [sp] at u1
        have := u1.uniq ((hC'.mono pre).app (.cons (a := p) (m := .dK []) (c := .dK []) rfl .nil))
        subst this
        exact u2.trans (List.perm_append_comm (l₁ := C') (l₂ := [(p, Cell.dK [])]))
      have cel := t2.cel.perm hp2
      obtain ⟨_, o, h1, ws, rfl, h2⟩ := cel.at_ p _ List.mem_cons_self
      obtain rfl := repK_nil.1 h2
      obtain ⟨p3, l3, c3⟩ := post_writeP (c' := .dK (mkD kvs)) (o := .dK (mergeK [] us)) hp2 t2.le t2.cel ⟨_, rfl, repK_fold r2 (repK_nil.2 rfl)⟩
      refine ⟨h1, us, rfl, by rw [← repK_len r2]; exact hl, ?_⟩
      exact q p _ F2 ((p1.trans p2).trans p3) ⟨l3, t2.gam, c3⟩ hp
    · trivial
  · trivial
/-- bool(o) -/
theorem em_boolO {cn : Str} {Cc : Addr} {f : DM} {ta : TA} {ms : List ME} (hc : clOf K cn = Cc) (h : AM K W P ta ms) : EM K W P (tCB (rBoolO Cc (spF K (MirF f))) ta) (boolO cn f ms) := fun ρ Γ S G C g s => by
  subst hc
  refine ax_get (te := tCB (rBoolO (clOf K cn) (spF K (MirF f))) ta) g s h (fun e C' h σ H F s Q q => h σ H F s _ q) fun xs S1 ds C1 v1 s1 e1 => ?_
  split
  · rename_i x
    split
    · rename_i hr
      refine use_map (callD_ok v1 s1) fun d d' C2 hg hu σ H F s Q q => e1 σ H F s _ fun vs H1 F1 p1 t1 r1 => ?_
      cases v1 with
      | cons vx t =>
        cases t
        obtain ⟨v, vs', rfl, r2, r3⟩ := reps_cons.1 r1
        obtain rfl := reps_nil.1 r3
        obtain ⟨a, dx, fs, rfl, h1⟩ := recvP_at hr vx s1 t1.le t1.cel r2
        refine ⟨a, dx, fs, rfl, h1, hu _ _ _ _ _ t1.le t1.cel r1 fun w H2 F2 p2 l2 c2 r4 => ?_⟩
        obtain ⟨b, rfl, rfl⟩ := gBl_v hg r4
        exact ⟨b, rfl, q _ H2 F2 (p1.trans p2) ⟨l2, t1.gam.kx p2.kx, c2⟩ (rep_v.2 rfl)⟩
    · trivial
  · trivial
/-- isinstance(e, X), e the exception in hand, of the class c -/
def isxM (i ka : Nat) (b : Bool) : ME := fun Γ S => match Γ[i]? with
  | some (some (.r k)) => match decide (k = ka) with
    | true => .v (.p (dB b)) S
    | false => .bad
  | _ => .bad
theorem em_isx {n : Str} {cls : Value} {ka : Nat} {a D : Addr} {dd : Option Addr} {b : Bool} (hcl : cls = .ref (clOf K n)) (hd : dd = none) (hC : ExcC K (clOf K n)) (hk : PySem.W.kitOne K (.ref (clOf K n)) (.ref D) = some b) :
    EM K W (excP ka a dd ++ P) (tCB (rIsX K a cls dd) (tCons (tVar i) (tCons (tC (.ref D)) tNil))) (isxM i ka b) := fun ρ Γ S G C g s => by
  subst hcl
  unfold isxM
  split
  · rename_i k ek
    split
    · rename_i h
      obtain rfl := of_decide_eq_true h
      obtain ⟨d0, e0, hv⟩ := g.at_ i _ ek
      obtain ⟨a', ha, rfl⟩ := hv
      have := g.px (k, a) (by cases dd <;> exact List.mem_append_left _ List.mem_cons_self)
      rw [ha] at this
      cases this
      refine ⟨_, C, rfl, s, fun σ H F t Q q => ?_⟩
      obtain ⟨v, g1, g2⟩ := t.gam.at_ i _ e0
      obtain rfl := rep_v.1 g2
      exact ⟨_, g1, clOf K n, rfl, hd, hC, _, .ref D, b, rfl, (fun u h => h), hk, q _ H F Post.refl t (rep_v.2 rfl)⟩
    · trivial
  · trivial
end
end Mr
end

section
set_option maxRecDepth 100000
set_option maxHeartbeats 4000000
/-! Mr9: what the printed texts lean on: defs as they are used, the class table, the law's own call. -/
namespace Mr
open PySem L2 Dm PySem.Spec PyProof.Rows

/-- a def of the module, as it is called -/
structure GDef (P : Program) (w : World) (K : PySem.W.Frag) (mg : Str → Option Value) (base : Heap) (x : Str) (f : Addr) (fd : FuncData) (k : Nat) (ps : List Str) (φ : Fam) : Prop where
  ok : FnOk P w K mg base (L2.CX P w) k f fd ps (spF K φ)
  mgx : mg x = some (.ref f)
  kp : PySem.W.keepIn K (.ref f) = true
  bn : Binds K fd ps []
/-- a def of a class -/
structure GMet (P : Program) (w : World) (K : PySem.W.Frag) (mg : Str → Option Value) (base : Heap) (f : Addr) (fd : FuncData) (k : Nat) (ps : List Str) (φ : Fam) : Prop where
  ok : FnOk P w K mg base (L2.CX P w) k f fd ps (spF K φ)
  bn : Binds K fd ps []
theorem hu64 {k : Nat} {A : Around} (h : Room k A) : A.units + 64 < cLine := h.units
abbrev W0 : WX := fun _ _ _ _ => False
theorem ps_raiseR {X : Cx} {W : WX} {e : Expr} {t : L2.St → Hp → XK → Prop} {pos : Pos} (hc : X.calm = true) (tk : Takes X W) (he : PMk X e t) : PS X (.Raise (some e) none pos) (tRs W t) := ps_raise hc tk he
section
variable {X : Cx} {x n : Str} {c : Value} {i : Nat} {body suite : List Stmt} {b₀ : Stmt} {np pos pos' : Pos} {tb : WX → TS} {ts : Addr → Value → Option Addr → TS} {Wout : WX}
theorem ps_tryAs (hs : X.stack = X.env :: X.outer) (hf : X.env.frame = some X.env.locals) (hN : X.N.Nodup) (hi : X.N[i]? = some n) (hln : X.env.kindOf n = some .local) (hc : Names X x c) (tk : Takes X Wout)
    (hb : ∀ (W : WX) (pn : List (Addr × Obj)) (xe : Value → Shared → Prop), Takes (X.tr pn xe) W → PassesOwn (model X.prog X.w) X.A X.env xe → PSs (X.tr pn xe) body (tb W))
    (hsu : ∀ (a : Addr) (oe : Obj) (cls : Value) (d : Option Addr) (pn : List (Addr × Obj)), Zc cls d oe → (∃ vs, oe.data = .fields vs) → PSs (X.suite a ((a, oe) :: pn)) (b₀ :: suite) (ts a cls d)) :
    PS X (.Try body [.ExceptHandler (some (.Name x np)) (some n) (b₀ :: suite) pos'] [] [] pos) (tTryAs X.K c i ts Wout tb) := ps_try_as hs hf hN hi hln hc tk hb hsu
theorem ps_tryOn (hs : X.stack = X.env :: X.outer) (hf : X.env.frame = some X.env.locals) (hc : Names X x c) (tk : Takes X Wout)
    (hb : ∀ (W : WX) (pn : List (Addr × Obj)) (xe : Value → Shared → Prop), Takes (X.tr pn xe) W → PassesOwn (model X.prog X.w) X.A X.env xe → PSs (X.tr pn xe) body (tb W))
    (hsu : ∀ (a : Addr) (oe : Obj) (cls : Value) (d : Option Addr) (pn : List (Addr × Obj)), Zc cls d oe → (∃ vs, oe.data = .fields vs) → PSs (X.suite a ((a, oe) :: pn)) (b₀ :: suite) (ts a cls d)) :
    PS X (.Try body [.ExceptHandler (some (.Name x np)) none (b₀ :: suite) pos'] [] [] pos) (tTryOn X.K c ts Wout tb) := ps_try_only hs hf hc tk hb hsu
end
section
variable {K : PySem.W.Frag} {W : WX} {P : List (Nat × Addr)} {k0 : Nat}
theorem tab_of {L : List Str} (z : Cl0 K) (ab : ∀ c ∈ CLS, c ∈ L ∨ PySem.W.nsIn K mainGlobals c = some none) (own : ∀ c ∈ L, OwnC K (clOf K c)) (ty : ∀ c ∈ L, ∀ n ∈ TYS, PySem.W.kitOne K (.ref (clOf K c)) (.type n) = some false)
    (bt : ∀ c ∈ L, ∀ n ∈ TYS7, PySem.W.kitOne K (.type n) (.ref (clOf K c)) = some false) (nf : ∀ c ∈ L, ∀ n ∈ TYS7, PySem.W.notFirst K (clOf K c) (.type n) = true)
    (is : ∀ c ∈ L, ∀ d ∈ L, PySem.W.kitOne K (.ref (clOf K c)) (.ref (clOf K d)) = some (isSub c d)) (no : ∀ c ∈ L, ∀ d ∈ L, c = d ∨ isSub d c = false → PySem.W.notFirst K (clOf K c) (.ref (clOf K d)) = true) : Tab K := by
  have h : ∀ c ∈ CLS, hasCls K c → c ∈ L := fun c hc ⟨a, ha⟩ => by
    rcases ab c hc with h | h
    · exact h
    · rw [h] at ha; cases ha
  exact ⟨z, fun c hc hl => own c (h c hc hl), fun c hc hl => ty c (h c hc hl), fun c hc hl => bt c (h c hc hl), fun c hc hl => nf c (h c hc hl), fun c hc d hd hl hl' => is c (h c hc hl) d (h d hd hl'), fun c hc d hd hl hl' => no c (h c hc hl) d (h d hd hl')⟩
theorem bin0 {Cc : Addr} {op : Operator} : ∀ c ∈ ([] : List Str), ∀ a dx fs H, H a = some (.ins (clOf K c) dx fs) → OtherC K H Cc op (.ref a) := fun _ h => nomatch h
theorem bini0 {Cc : Addr} {op : Operator} : false = true → ∀ i H, OtherC K H Cc op (.int i) := fun h => nomatch h
theorem bini1 {Cc : Addr} {op : Operator} (h : ∀ i H, OtherC K H Cc op (.int i)) : true = true → ∀ i H, OtherC K H Cc op (.int i) := fun _ => h
theorem exm0 {cv : Value} : ∀ n ∈ ([] : List Str), PySem.W.exmOne K (.ref (clOf K n)) cv = some false := fun _ h => nomatch h
theorem exm1 {c : Str} {cv : Value} (h : PySem.W.exmOne K (.ref (clOf K c)) cv = some true) : ∀ n ∈ ([c] : List Str), PySem.W.exmOne K (.ref (clOf K n)) cv = some true := fun n m => by
  rcases List.mem_cons.1 m with rfl | m
  · exact h
  · cases m
/-- a suite for exceptions without fields -/
def noFs (s : Str → Nat → MS) : Exn → Nat → MS := fun x ka => match x.fs with
  | none => s x.cls ka
  | some _ => fun _ _ => .bad
theorem suite1 {c : Str} {ts : Addr → Value → Option Addr → TS} {s : Str → Nat → MS} (h : ∀ a ka cls d, cls = .ref (clOf K c) → d = none → RM K W (excP ka a d ++ P) k0 (ts a cls d) (s c ka)) : ∀ a x ka cls d, x.cls ∈ [c] → cls = .ref (clOf K x.cls) → XD x d → RM K W (excP ka a d ++ P) k0 (ts a cls d) (noFs s x ka) := fun a x ka cls d hc hcl hx => by
  rcases hx with ⟨h1, rfl⟩ | ⟨fs, b, h1, rfl⟩
  · obtain ⟨cl, fs⟩ := x
    cases h1
    rcases List.mem_cons.1 hc with e | m
    · cases e
      exact h a ka _ _ hcl rfl
    · cases m
  · obtain ⟨cl, fs'⟩ := x
    cases h1
    exact fun ρ Γ S G C e B g s o h => h.elim
/-! ### the law's own call -/
theorem law_cx {P : Program} {w : World} {H : Hp} {s : Shared} {e : Value} {s' : Shared} (h : L2.CX P w [] H s (fun _ _ _ => False) e s') : False := by
  obtain ⟨_, _, _, _, _, _, _, _, _, _, _, _, h⟩ := h
  exact h
theorem law_spM {m : DM} {H : Hp} {a : Addr} {ns : List Int} (hm : ∀ ns : List Int, ns.length ≤ 63 → m [.p (.scr ns)] [] = .ret (.p (dB true)) []) (hl : ns.length ≤ 63) (hS : SqL K H a (ns.map V.int)) : spF K (MirF m) [.ref a] H (fun v _ => v = .bl true) fun _ _ _ => False := by
  refine ⟨⟨[.scr ns], [], .ret (dB true) []⟩, fun b => if b = a then H b else none, ⟨[], [.p (.scr ns)], [], .cons rfl .nil, ⟨[], .nil, List.Perm.refl _⟩, ?_⟩, reps_cons.2 ⟨_, _, rfl, rep_scr.2 ⟨a, rfl, ?_⟩, reps_nil.2 rfl⟩, fun b o h => ?_, ⟨List.nodup_nil, fun _ _ m => by cases m⟩, fun v H' F' _ _ _ r => rep_v.1 r⟩
  · rw [hm ns hl]
    exact ⟨_, [], rfl, ⟨[], .nil, List.Perm.refl _⟩, rfl⟩
  · rcases hS with (h | ⟨o, h⟩) | h
    · exact .inl (.inl (by show (if a = a then H a else none) = _; rw [if_pos rfl]; exact h))
    · exact .inl (.inr ⟨o, by show (if a = a then H a else none) = _; rw [if_pos rfl]; exact h⟩)
    · exact .inr h
  · dsimp only at h
    split at h
    · exact .inl h
    · cases h
end
end Mr
end

section
set_option maxRecDepth 100000
set_option maxHeartbeats 4000000
/-! Mr10: a list that will be changed later is looked at: what is found are plain values, the list stays. -/
namespace Mr
open PySem L2 Dm
def isGone : MCell → Bool
  | .gone => true
  | _ => false
def valsD : List Dat → Option (List V)
  | [] => some []
  | .v u :: ds => match valsD ds with
    | some us => some (u :: us)
    | none => none
  | _ :: _ => none
theorem valsD_eq : ∀ {ds : List Dat} {us : List V}, valsD ds = some us → ds = us.map Dat.v
  | [], us, h => by cases h; rfl
  | d :: ds, us, h => by
    unfold valsD at h
    split at h
    · cases ‹_ :: _ = []›
    · rename_i u es e
      cases e
      split at h
      · rename_i ws e
        cases h
        rw [valsD_eq e]
        rfl
      · cases h
    · cases h
def viewM (i : Nat) (m : ME) : ME := fun Γ S => match Γ[i]? with
  | some (some (.r k)) => match S[k]? with
    | some (.lst ds) => match m (Γ.set i (some (.p (.lst ds)))) (S.map fun _ => .gone) with
      | .n (.lst es) S2 => match S2.all isGone, valsD es with
        | true, some _ => .n (.lst es) S
        | _, _ => .bad
      | .v (.p (.v u)) S2 => match S2.all isGone with
        | true => .v (.p (.v u)) S
        | false => .bad
      | _ => .bad
    | _ => m Γ S
  | _ => m Γ S
section
variable {K : PySem.W.Frag} {W : WX} {P : List (Nat × Addr)} {ρ ρ' : List Addr} {Γ : MEnv} {S S1 : Store} {G : Gam} {C C1 R : Cells} {te : TE} {m : ME} {c : Cell} {d : Dat} {x : Val} {i k : Nat} {L : Cells} {as : List Addr} {F H : Hp} {v : V} {ds es : List Dat} {a : Addr}
theorem SRL.allGone (h : SRL ρ as S L) : SRL ρ as (S.map fun _ => .gone) [] := by
  induction h with
  | nil => exact .nil
  | cons h t ih => exact .gone ih
  | gone t ih => exact .gone ih
theorem SRL.noneLeft (h : SRL ρ as S L) (hg : S.all isGone = true) : L = [] := by
  induction h with
  | nil => rfl
  | @cons a m c as S L h t ih =>
    rw [List.all_cons, Bool.and_eq_true] at hg
    cases m <;> first | (cases hg.1; done) | exact h.elim
  | gone t ih =>
    rw [List.all_cons, Bool.and_eq_true] at hg
    exact ih hg.2
theorem SR.noneLeft (h : SR ρ S C) (hg : S.all isGone = true) : C = [] := by
  obtain ⟨L, h1, h2⟩ := h
  rw [h1.noneLeft hg] at h2
  exact h2.eq_nil
/-- the world with the list frozen, and back -/
theorem thaw {Γ : Gam} {σ : L2.St} (s : Sat K Γ C σ H F) (hm : (a, Cell.lst ds) ∈ C) (hG : Γ[i]? = some (some (dR a))) : ∃ F1, Sat K (Γ.set i (some (.lst ds))) [] σ H F1 ∧ ∀ C' F' H', Post [] F1 H C' F' H' → Post C F H C F H' ∧ Sat K Γ C σ H' F := by
  obtain ⟨hF, o, hH, us, rfl, hr⟩ := s.cel.at_ a _ hm
  have e : Kx F (upd F a (.lst us)) := Kx.upd hF
  obtain ⟨v, hv, rv⟩ := s.gam.at_ i _ hG
  obtain rfl : v = .ref a := rep_v.1 rv
  refine ⟨upd F a (.lst us), ⟨fun b u q => ?_, ?_, ⟨List.nodup_nil, fun _ _ h => (List.not_mem_nil h).elim⟩⟩, fun C' F' H' p => ?_⟩
  · by_cases z : b = a
    · subst z
      rw [upd_same] at q
      cases q
      exact .inl hH
    · rw [upd_ne z] at q
      exact s.le b u q
  · have g := (s.gam.kx e).set (i := i) (d := .lst ds) (v := .ref a) (rep_lst.2 ⟨a, us, rfl, upd_same, hr.kx e⟩)
    have : σ.set i (some (.ref a)) = σ := by
      apply List.ext_getElem?
      intro j
      by_cases z : i = j
      · subst z
        rw [List.getElem?_set_self (List.getElem?_eq_some_iff.1 hv).1, hv]
      · rw [List.getElem?_set_ne z]
    rwa [this] at g
  · have kp : ∀ b u, H b = some u → (b ∈ dom C → H' b = some u) ∧ Kept F H' b u := fun b u hb => by
      have k := p.keep b u (by intro h; cases h) hb
      by_cases z : b = a
      · subst z
        rw [hH] at hb
        cases hb
        rcases k with k | ⟨_, kvs, _, k, _⟩
        · exact ⟨fun _ => k, .inl k⟩
        · cases k
      · rcases k with k | ⟨k1, k2⟩
        · exact ⟨fun _ => k, .inl k⟩
        · rw [upd_ne z] at k1
          refine ⟨fun hd => ?_, .inr ⟨k1, k2⟩⟩
          obtain ⟨⟨b', c⟩, q1, q2⟩ := List.mem_map.1 hd
          cases q2
          rw [(s.cel.at_ _ _ q1).1] at k1
          cases k1
    refine ⟨⟨Kx.refl F, fun b u _ hb => (kp b u hb).2, fun _ _ _ h => h, fun b h => .inl h, p.st⟩, ⟨fun b u q => ?_, s.gam, ⟨s.cel.nd, fun b c hb => ?_⟩⟩⟩
    · rcases s.le b u q with h | ⟨od, kvs, h1, h2⟩
      · rcases (kp b u h).2 with k | ⟨_, kvs, od, k1, k2⟩
        · exact .inl k
        · exact .inr ⟨od, kvs, k1, k2⟩
      · rcases (kp b _ h2).2 with k | ⟨_, _, _, k1, _⟩
        · exact .inr ⟨od, kvs, h1, k⟩
        · cases k1
    · obtain ⟨q1, u, q2, q3⟩ := s.cel.at_ b c hb
      exact ⟨q1, u, (kp b u q2).1 (mem_dom hb), q3⟩
theorem thawN {Γ : Gam} {us : List V} (hm : (a, Cell.lst ds) ∈ C) (hG : Γ[i]? = some (some (dR a))) (h : EvN K te (Γ.set i (some (.lst ds))) [] (.lst (us.map Dat.v)) []) : EvN K te Γ C (.lst (us.map Dat.v)) C := fun σ H F s Q q => by
  obtain ⟨F1, s1, back⟩ := thaw s hm hG
  refine h σ H F1 s1 Q fun b H' F' p s' hn => ?_
  obtain ⟨p2, s2⟩ := back _ _ _ p
  obtain ⟨_, o, h1, ws, rfl, h2⟩ := s'.cel.at_ b _ List.mem_cons_self
  have := reps_v h2
  subst this
  have hb : b ∉ dom C := s.cel.notin hn
  refine q b H' F ⟨p2.kx, p2.keep, p2.nw, fun x hx => ?_, p2.st⟩ ⟨s2.le, s2.gam, s2.cel.cons (s.le.none hn) h1 ⟨ws, rfl, reps_of ws⟩ hb⟩ hn
  rcases List.mem_cons.1 hx with z | z
  · rw [z]
    exact .inr hn
  · exact .inl z
theorem thawV {Γ : Gam} {u : V} (hm : (a, Cell.lst ds) ∈ C) (hG : Γ[i]? = some (some (dR a))) (h : Ev K te (Γ.set i (some (.lst ds))) [] (.v u) []) : Ev K te Γ C (.v u) C := fun σ H F s Q q => by
  obtain ⟨F1, s1, back⟩ := thaw s hm hG
  refine h σ H F1 s1 Q fun v H' F' p s' r => ?_
  obtain ⟨p2, s2⟩ := back _ _ _ p
  exact q v H' F p2 s2 (rep_v.2 (rep_v.1 r))
theorem em_view (h : EM K W P te m) : EM K W P te (viewM i m) := fun ρ Γ S G C g s => by
  unfold viewM
  split
  · rename_i k e1
    split
    · rename_i ds e2
      obtain ⟨d, hG, a, ha, rfl⟩ := g.at_ i _ e1
      obtain ⟨a', c, R, q1, q2, q3, _, _⟩ := s.get e2 (by intro h; cases h)
      rw [ha] at q1
      cases q1
      obtain rfl : c = .lst ds := q2
      have hm : (a, Cell.lst ds) ∈ C := (q3.mem_iff).2 List.mem_cons_self
      obtain ⟨L, l1, l2⟩ := s
      have h0 := h ρ (Γ.set i (some (.p (.lst ds)))) (S.map fun _ => .gone) (G.set i (some (.lst ds))) [] (g.set (x := .p (.lst ds)) rfl) ⟨[], l1.allGone, .nil⟩
      revert h0
      generalize m (Γ.set i (some (.p (.lst ds)))) (S.map fun _ => .gone) = r
      intro h0
      split
      · rename_i es S2
        split
        · rename_i us hg hv
          obtain ⟨c, C', h1, h2, h3⟩ := h0
          obtain rfl : c = .lst es := h1
          obtain rfl := h2.noneLeft hg
          have := valsD_eq hv
          subst this
          exact ⟨_, C, rfl, ⟨L, l1, l2⟩, thawN hm hG h3⟩
        · trivial
      · rename_i u S2
        split
        · rename_i hg
          obtain ⟨d, C', h1, h2, h3⟩ := h0
          obtain rfl : d = .v u := h1
          obtain rfl := h2.noneLeft hg
          exact ⟨_, C, rfl, ⟨L, l1, l2⟩, thawV hm hG h3⟩
        · trivial
      · trivial
    · exact h ρ Γ S G C g s
  · exact h ρ Γ S G C g s
/-- a new list is changed, and nobody keeps it -/
def mutNS (f : List Dat → List Dat → Option (Dat × List Dat)) (mo : ME) (ms : List ME) : MS := fun Γ S => match mo Γ S with
  | .n (.lst ds0) S1 => match argsP ms Γ (S1 ++ [.lst ds0]) with
    | .ok es S2 => match S2[S1.length]? with
      | some (.lst ds) => match f ds es with
        | some (_, ds') => .nx Γ (S2.set S1.length (.lst ds'))
        | none => .bad
      | _ => .bad
    | _ => .bad
  | _ => .bad
theorem rm_mutN {k0 : Nat} {to : TE} {mo : ME} {r : V → List V → Hp → VK → Prop} {f : List Dat → List Dat → Option (Dat × List Dat)} {ta : TA} {ms : List ME} (hf : MtL K r f) (ho : EM K W P to mo) (h : AMP K W P ta ms) : RM K W P k0 (tDrop (tBM K "list" r to ta)) (mutNS f mo ms) := fun ρ Γ S G C e B g s o hr => by
  have h0 := ho ρ Γ S G C g s
  unfold mutNS at hr
  revert h0 hr
  cases mo Γ S with
  | n mc S1 =>
    cases mc with
    | lst ds0 =>
      intro hr ⟨c, C1, h1, h2, h3⟩
      obtain rfl : c = .lst ds0 := h1
      refine fun σ H D ⟨F, q⟩ E => ?_
      show tBM K "list" r to ta σ H _
      refine h3 σ H F q.sa _ fun a H1 F1 p1 t1 hn => ?_
      have pre : ρ <+: ρ ++ [a] := List.prefix_append _ _
      have s1 : SR (ρ ++ [a]) (S1 ++ [.lst ds0]) ((a, Cell.lst ds0) :: C1) := h2.alloc (m := .lst ds0) rfl
      have ha : (ρ ++ [a])[S1.length]? = some a := by
        rw [← h2.len, List.getElem?_append_right (Nat.le_refl _), Nat.sub_self] <;> rfl
      have h4 := h (ρ ++ [a]) Γ (S1 ++ [.lst ds0]) G _ (g.mono pre) s1
      revert h4 hr
      dsimp only
      cases argsP ms Γ (S1 ++ [.lst ds0]) with
      | ok es S2 =>
        intro hr ⟨C2, s2, e2⟩
        dsimp only at hr
        revert hr
        split
        · rename_i ds em
          split
          · rename_i d ds' hd
            intro hr
            obtain ⟨a', c', R, q1, q2, q3, q4, _⟩ := s2.get em (by intro z; cases z)
            rw [ha] at q1
            cases q1
            obtain rfl : c' = .lst ds := q2
            obtain ⟨_, o0, g0, us0, rfl, _⟩ := t1.cel.at_ _ _ List.mem_cons_self
            refine ⟨.inl ⟨rfl, us0, SqL.of g0⟩, e2 σ H1 F1 t1 _ fun vs H2 F2 p2 t2 r2 => ?_⟩
            obtain ⟨_, o', g1, us, rfl, g2⟩ := t2.cel.at_ _ _ (q3.symm.subset List.mem_cons_self)
            obtain ⟨us', v, w1, w2, w3⟩ := hf ds es d ds' hd a us vs H2 F2 t2.le g1 g2 r2
            obtain ⟨p4, l4, c4⟩ := post_writeP (c' := .lst ds') (o := .lst us') q3 t2.le t2.cel ⟨_, rfl, w1⟩
            refine w3 _ (E.nx _ _ _ _ (hr (ρ ++ [a]) _ _ pre (o.snoc fun m => noP q.po hn (e.hI a m)) (g.mono pre) (q4 (.lst ds') _ rfl)) ⟨F2, q.step ((p1.trans p2).trans p4) ⟨l4, t2.gam, c4⟩⟩)
          · exact fun hr => hr.elim
        · exact fun hr => hr.elim
      | ex e' S2 => exact fun hr => hr.elim
      | bad => exact fun hr => hr.elim
    | _ => exact fun hr => hr.elim
  | v x S1 => exact fun hr => hr.elim
  | ex e' S1 => exact fun hr => hr.elim
  | bad => exact fun hr => hr.elim
theorem rm_mutN0 {k0 : Nat} {to : TE} {mo : ME} {r : V → List V → Hp → VK → Prop} {f : List Dat → List Dat → Option (Dat × List Dat)} (hf : MtL K r f) (ho : EM K W P to mo) : RM K W P k0 (tDrop (tBM0 K "list" r to)) (mutNS f mo []) := rm_mutN (ta := tNil) hf ho pm_nil
/-- {k: v, ..} of constants -/
def cTs (kvs : List (Key × V)) : List (TE × TE) := kvs.map fun p => (tC (kV p.1), tC p.2)
theorem tPairs_c {σ : L2.St} : ∀ {kvs : List (Key × V)} {Q : List (V × V) → Hp → Prop}, Q (kvs.map fun p => (kV p.1, p.2)) H → tPairs (cTs kvs) σ H Q
  | [], Q, h => h
  | p :: kvs, Q, h => tPairs_c (kvs := kvs) (Q := fun ps H3 => Q ((kV p.1, p.2) :: ps) H3) h
abbrev cKs (kvs : List (Key × V)) : List (Key × Dat) := kvs.map fun p => (p.1, Dat.v p.2)
theorem repK_c {F : Hp} : ∀ kvs : List (Key × V), RepK K F (cKs kvs) kvs
  | [] => repK_nil.2 rfl
  | (k, v) :: kvs => repK_cons.2 ⟨v, kvs, rfl, rep_v.2 rfl, repK_c kvs⟩
def dispC (kvs : List (Key × V)) : ME := fun _ S => match decide (kvs.length ≤ 15) with
  | true => .n (.dK (mkD (cKs kvs))) S
  | false => .bad
theorem em_dispC {kvs : List (Key × V)} : EM K W P (tDisp (cTs kvs)) (dispC kvs) := fun ρ Γ S G C g s => by
  unfold dispC
  split
  · rename_i hl
    refine ⟨.dK (mkD (cKs kvs)), C, rfl, s, fun σ H F t Q q p hp => tPairs_c ?_⟩
    obtain ⟨p1, l1, c1⟩ := post_new (c := .dK []) (o := .dK []) t.le t.cel hp ⟨[], rfl, repK_nil.2 rfl⟩
    obtain ⟨p3, l3, c3⟩ := post_writeP (c' := .dK (mkD (cKs kvs))) (o := .dK (mergeK [] kvs)) (List.Perm.refl _) l1 c1 ⟨_, rfl, repK_fold (repK_c kvs) (repK_nil.2 rfl)⟩
    exact ⟨upd_same, kvs, rfl, of_decide_eq_true hl, q p _ F (p1.trans p3) ⟨l3, t.gam, c3⟩ hp⟩
  · trivial
end
end Mr
end

section
set_option maxRecDepth 100000
set_option maxHeartbeats 2000000
namespace L2
open PySem PySem.Spec PyProof.Rows
theorem kv_vals : ∀ {κ : Type} {kvs : List (κ × V)} {vs : List (κ × Value)}, KV kvs vs → Vals (kvs.map (·.2)) (vs.map (·.2)) := by
  intro κ kvs vs r
  unfold KV at r
  induction r with
  | nil => exact .nil
  | cons h t ih => exact .cons h.2 ih
section
variable {X : Cx} {o : Expr} {p pos apos mpos : Pos} {td : TE}
/-- list(o.values()) -/
def tListV (td : TE) : TE := fun σ H Q => td σ H fun x H1 => ∃ a kvs, x = V.ref a ∧ Rd H1 a (.dK kvs) ∧ ∀ p, H1 p = none → Q (.ref p) (upd H1 p (.lst (kvs.map (·.2))))
theorem pe_listV (hc : X.calm = true) (hg : Gl X "list") (hm : X.mg "list" = none) (hd : PE X o td) (hbase : attributeBase o "values" X.env (eval o X.env) = eval o X.env := by rfl) (hline : (apos.endLine == mpos.line) = true := by rfl)
    (na : starEach [Expr.Call (.Attribute o "values" apos) [] [] mpos] X.env = (false, eval (Expr.Call (.Attribute o "values" apos) [] [] mpos) X.env) :: starEach [] X.env := by rfl) :
    PE X (.Call (.Name "list" p) [.Call (.Attribute o "values" apos) [] [] mpos] [] pos) (tListV td) := by
  refine ⟨fun pins s σ H Q I h => ?_⟩
  refine Call_ (ld_blt I hg hm boot_list (PyProof.Rows.callWith_type1 (args_cons (wpAny_Call_method0_late hbase hline (thn (hd.run pins s σ H _ I h) fun v s1 ⟨x, H1, I1, r1, a, kvs, ex, ha, q⟩ => ?_)) na) na))
  subst ex
  obtain rfl : v = Value.ref a := r1
  obtain ⟨hz, hsys, vs, rel, dof⟩ := dk_rd I1.hok ha
  obtain ⟨ep, dat⟩ := dof.dictAt
  have dat' := dat
  obtain ⟨ob, es, ho, ex, hdat, hko, hpr, hnd⟩ := dat'
  refine ⟨"dict", "dict.values", F.plainAttrs_dict, F.slot_dict_values, F.type_dict_values, ⟨ob, ho, ex.1⟩, fun b e => ?_, Calls.callWith_builtin rfl (PySem.evalArgs_none ?_)⟩
  · cases e
    exact ⟨ob, ho, ex.2.1⟩
  refine call_meetsIn F.slot_dict_values ⟨ob, ho, ex.1⟩ F.entry_dict_values (F.args_dict_values_1 _) (meets_dict_values (mixKind X.prog X.w) a hsys) ⟨⟨vs, dof⟩, ?_⟩
  have k1 : ∀ b u, s1.heap.get? b = some u → (s1.heap.push { cls := .type "dict_values", data := .fields #[.ref a] }).get? b = some u := fun b u e => Heap.get?_push_of_some _ e
  have dat1 : (s1.heap.push { cls := .type "dict_values", data := .fields #[.ref a] }).DictAt (mixKind X.prog X.w) a vs ep := dat.keep k1
  refine args_nil ?_
  refine PySem.W.kdl_call (PySem.W.kdl_values (knd := mixKind X.prog X.w) (kvs := vs) (ep := ep)) (I.ok.hd hc) ⟨⟨_, Heap.get?_push_size _ rfl, rfl, rfl⟩, dat1⟩ (by rw [← rel.length]; exact hz) fun h' tk acc c' hk hD hacc => ?_
  have hv : acc.toList = vs.map (·.2) := PySem.W.kdl_vals_eq acc.toList (by rw [Array.length_toList]; exact hacc.1) fun j v e => hacc.2 j v (by rw [← Array.getElem?_toList]; exact e)
  have hr : Vals (kvs.map (·.2)) acc.toList := by rw [hv]; exact kv_vals rel
  refine ⟨.ref _, upd H1 _ (.lst (kvs.map (·.2))), I1.laid (t' := tk) (fun b u e => hk b u (k1 b u e)) (Nat.le_of_lt (by rw [Heap.size_push]; exact Nat.lt_succ_self _))
    (show ObjOk X.prog X.w _ _ _ (.lst (kvs.map (·.2))) from ⟨by rw [List.length_map]; exact hz, acc.toList, c', hr, by rw [Array.toArray_toList]; exact hD⟩), rfl, q _ (I1.hok.fresh (Nat.le_of_lt (by rw [Heap.size_push]; exact Nat.lt_succ_self _)))⟩
end

/-! ### list.remove, list.count of flat items -/
theorem erase_map {α β : Type} (f : α → β) : ∀ (l : List α) (j : Nat), (l.map f).eraseIdx j = (l.eraseIdx j).map f
  | [], j => by simp
  | a :: r, 0 => by simp
  | a :: r, j + 1 => by
    have ih := erase_map f r j
    simp [ih]
section
variable {X : Cx}
def eqz (k : Str) (v : Value) : Bool := match v with
  | .str n _ => n == k
  | _ => false
theorem eqz_gives {k : Str} {t : Tok} {us : List Value} {ns : List Str} (r : Vals (ns.map V.str) us) : ∀ y ∈ us, MeetsSeq.EqGives y (.str k t) (eqz k y) := by
  intro y hy
  obtain ⟨j, hj⟩ := List.mem_iff_getElem?.1 hy
  have hl := Paired.length r
  obtain ⟨hjl, _⟩ := List.getElem?_eq_some_iff.1 hj
  rw [← hl, List.length_map] at hjl
  obtain ⟨u, hu, ru⟩ := r.get (show (ns.map V.str)[j]? = some (.str ns[j]) by rw [List.getElem?_map, List.getElem?_eq_getElem hjl] <;> rfl)
  rw [hj] at hu
  cases hu
  obtain ⟨t', rfl⟩ := ru
  exact PyProof.Rows.eqGives_str _ _ _ _
theorem eqz_at {k : Str} {us : List Value} {ns : List Str} (r : Vals (ns.map V.str) us) {j : Nat} {z : Str} (h : ns[j]? = some z) : ∃ u, us[j]? = some u ∧ eqz k u = (z == k) := by
  obtain ⟨u, hu, ru⟩ := r.get (show (ns.map V.str)[j]? = some (.str z) by rw [List.getElem?_map, h] <;> rfl)
  obtain ⟨t', rfl⟩ := ru
  exact ⟨_, hu, rfl⟩
def rRemS : V → List V → Hp → VK → Prop := fun x xs H Q => ∃ (l : Addr) (ns : List Str) (k : Str) (j : Nat), x = .ref l ∧ xs = [.str k] ∧ H l = some (.lst (ns.map V.str)) ∧ ns[j]? = some k ∧ (∀ m : Nat, m < j → ns[m]? ≠ some k) ∧ Q .non (upd H l (.lst ((ns.eraseIdx j).map V.str)))
theorem mt_removeS : MtM X "list.remove" rRemS := by
  intro pins s σ H x xs v us Q I rx rxs h
  obtain ⟨l, ns, k, j, rfl, rfl, hH, hj, hno, q⟩ := h
  cases rx
  obtain ⟨u, rfl, ru⟩ := rxs.one
  obtain ⟨t, rfl⟩ := ru
  obtain ⟨z, its, n, r, hl, e⟩ := I.lstM hH
  rw [List.length_map] at hl z
  have hjn : j < ns.length := (List.getElem?_eq_some_iff.mp hj).1
  have hjl : j < its.toArray.size := by rw [List.size_toArray]; omega
  refine call_meets PySem.F.slot_list_remove ⟨_, e, rfl⟩ PySem.F.entry_list_remove (PySem.F.args_list_remove_2 _ _)
    (MeetsSeq.list_remove l its.toArray n (.str k t) (eqz k) (fun y hy => eqz_gives r y (by simpa using hy)) j hjl ?_ ?_ (by rw [List.size_toArray]; omega)) ⟨e, ?_⟩
  · obtain ⟨u, hu, hk⟩ := eqz_at (k := k) r hj
    obtain ⟨h1, h2⟩ := List.getElem?_eq_some_iff.mp hu
    have e1 : its.toArray[j] = u := by simpa using h2
    rw [e1, hk]
    exact beq_self_eq_true k
  · intro m hm hmj
    have hmn : m < ns.length := by omega
    obtain ⟨u, hu, hk⟩ := eqz_at (k := k) r (List.getElem?_eq_getElem hmn)
    obtain ⟨h1, h2⟩ := List.getElem?_eq_some_iff.mp hu
    have e1 : its.toArray[m] = u := by simpa using h2
    rw [e1, hk]
    refine beq_eq_false_iff_ne.mpr fun e2 => hno m hmj ?_
    rw [List.getElem?_eq_getElem hmn, e2]
  · have rr := r.eraseIdx j
    rw [erase_map] at rr
    refine ⟨.non, _, I.lset (its' := its.eraseIdx j) (t' := s.toks) hH e ?_ rr ?_, rfl, q⟩
    · show its.toArray.eraseIdxIfInBounds j = (its.eraseIdx j).toArray
      rw [List.eraseIdxIfInBounds_toArray]
    · have z2 := List.length_eraseIdx_le ns j
      rw [List.length_map]
      omega
/-- xs.count(y), flat items -/
def rCntF (K : PySem.W.Frag) : V → List V → Hp → VK → Prop := fun x xs H Q => ∃ (p : Addr) (ys : List V) (y : V), x = .ref p ∧ xs = [y] ∧ SqL K H p ys ∧ flatV y = true ∧ ys.all flatV = true ∧ Q (.int (ys.countP fun z => eqV z y : Nat)) H
theorem countP_eqU {y : V} : ∀ {xs : List V} {us : List Value}, Vals xs us → xs.all flatV = true → us.countP (eqU y) = xs.countP fun z => eqV z y
  | [], _, .nil, _ => rfl
  | x :: xs, u :: us, .cons r t, h => by
    rw [List.all_cons, Bool.and_eq_true] at h
    rw [List.countP_cons, List.countP_cons, eqU_of r h.1, countP_eqU t h.2]
theorem mt_countF : MtR X "list.count" (rCntF X.K) := by
  intro pins s σ H x xs v us Q I rx rxs h
  obtain ⟨p, ys, y, rfl, rfl, hs, fy, fys, q⟩ := h
  cases rx
  cases rxs with
  | cons ry rt =>
    rename_i uy ut
    cases rt
    obtain ⟨its, rv, ⟨⟨cls, dd, data, sl⟩, n, ho, hc, hdn, hd⟩, hlen⟩ := I.list hs
    simp only at hc hd
    subst hc hd
    refine call_meets PySem.F.slot_list_count ⟨_, ho, rfl⟩ PySem.F.entry_list_count (PySem.F.args_list_count_2 _ _)
      (SeqAt.list_countAt p its.toArray n dd sl uy (eqU y)) ⟨ho, fun u' hu' => mem_eqAt ry fy rv fys u' (by simpa using hu'), ?_⟩
    have ec : its.toArray.toList.countP (eqU y) = ys.countP fun z => eqV z y := countP_eqU rv fys
    refine ⟨.int (ys.countP fun z => eqV z y : Nat), H, I.tok _, ⟨s.toks, ?_⟩, q⟩
    rw [← ec]
end
end L2

namespace L2
open PySem PySem.Spec PyProof.Rows
/-! ### == and != of dicts of data -/
theorem _root_.Nat.beq_eq_decide (a b : Nat) : (a == b) = decide (a = b) := by
  rw [Bool.eq_iff_iff]
  simp
inductive KHits (K : PySem.W.Frag) (H : Hp) (ls : List (Key × V)) : List (Key × V) → Bool → Prop
  | nil : KHits K H ls [] true
  | miss {k : Key} {v : V} {r : List (Key × V)} : valV ls k = none → KHits K H ls ((k, v) :: r) false
  | hit {k : Key} {v u : V} {d e : PyData} {r : List (Key × V)} {b : Bool} : valV ls k = some u → Dp K H v d → Dp K H u e → SeqAt.shaped d = true → SeqAt.shaped e = true → KHits K H ls r b → KHits K H ls ((k, v) :: r) (PyData.eqv d e && b)
section
variable {X : Cx} {pins : List (Addr × Obj)} {σ : St} {H : Hp} {s : Shared}
theorem khits_run (I : Inv X pins σ H s) {A : Around} (hu : A.units + 65 < cLine) {ls : List (Key × V)} {vb : List (Key × Value)} (rb : KV ls vb) {ks : List (Key × V)} {b : Bool} (h : KHits X.K H ls ks b) : ∀ {va : List (Key × Value)}, KV ks va → PySem.W.KeqHits A.in1 s vb va b := by
  unfold KV
  induction h with
  | nil =>
    intro va r
    cases r
    exact .nil
  | @miss k v r hn =>
    intro va rr
    cases rr with
    | cons h t =>
      rename_i q qs
      obtain ⟨key, w⟩ := q
      obtain rfl : k = key := h.1
      refine .miss ?_
      have z := rb.val k
      rw [hn] at z
      cases e : valueAt vb k with
      | none => rfl
      | some y => rw [e] at z; exact z.elim
  | @hit k v u d e r b hu' hd he sd se _ ih =>
    intro va rr
    cases rr with
    | cons h t =>
      rename_i q qs
      obtain ⟨key, w⟩ := q
      obtain rfl : k = key := h.1
      have z : RelO (some u) (valueAt vb k) := by rw [← hu']; exact rb.val k
      obtain ⟨y, hy, ry⟩ := z.some_of
      obtain ⟨as, r1⟩ := Dp.reads I d v w hd h.2
      obtain ⟨bs, r2⟩ := Dp.reads I e u y he ry
      exact .hit hy (PySem.W.keq_at r1 r2 sd se (by show A.units + 1 + 64 < cLine; omega)) (ih t)
def rEqK (K : PySem.W.Frag) (neg : Bool) : R2 := fun x y H Q => ∃ (a b : Addr) (ks ls : List (Key × V)) (r : Bool), x = .ref a ∧ y = .ref b ∧ Rd H a (.dK ks) ∧ Rd H b (.dK ls) ∧ (ks.length = ls.length → KHits K H ls ks r) ∧ Q (.bl (neg ^^ (decide (ks.length = ls.length) && r))) H
theorem op_eqK (hu : X.A.units + 65 < cLine) : OpR X (compareOp .Eq) (rEqK X.K false) := by
  intro pins s σ H x y v u Q I rx ry h
  obtain ⟨a, b, ks, ls, r, rfl, rfl, ha, hb, hh, q⟩ := h
  cases (show v = Value.ref a from rx)
  cases (show u = Value.ref b from ry)
  obtain ⟨_, ya, va, ra, da⟩ := dk_rd I.hok ha
  obtain ⟨_, yb, vb, rb, db⟩ := dk_rd I.hok hb
  refine PySem.W.keq_eq (knd := mixKind X.prog X.w) (r := r) ya yb da db (by omega) (fun hl => khits_run I hu rb (hh (by rw [ra.length, rb.length]; exact hl)) ra) ?_
  refine ⟨.bl _, H, I, rfl, ?_⟩
  have e1 : va.length = ks.length := (ra.length).symm
  have e2 : vb.length = ls.length := (rb.length).symm
  rw [e1, e2, show (ks.length == ls.length && r) = (false ^^ (decide (ks.length = ls.length) && r)) by rw [Bool.false_xor, Nat.beq_eq_decide]]
  exact q
theorem op_neK (hu : X.A.units + 65 < cLine) : OpR X (compareOp .NotEq) (rEqK X.K true) := by
  intro pins s σ H x y v u Q I rx ry h
  obtain ⟨a, b, ks, ls, r, rfl, rfl, ha, hb, hh, q⟩ := h
  cases (show v = Value.ref a from rx)
  cases (show u = Value.ref b from ry)
  obtain ⟨_, ya, va, ra, da⟩ := dk_rd I.hok ha
  obtain ⟨_, yb, vb, rb, db⟩ := dk_rd I.hok hb
  refine PySem.W.keq_ne (knd := mixKind X.prog X.w) (r := r) ya yb da db (by omega) (fun hl => khits_run I hu rb (hh (by rw [ra.length, rb.length]; exact hl)) ra) ?_
  refine ⟨.bl _, H, I, rfl, ?_⟩
  have e1 : va.length = ks.length := (ra.length).symm
  have e2 : vb.length = ls.length := (rb.length).symm
  rw [e1, e2, show (!(ks.length == ls.length && r)) = (true ^^ (decide (ks.length = ls.length) && r)) by rw [Bool.true_xor, Nat.beq_eq_decide]]
  exact q
end
end L2
end

section
set_option maxRecDepth 100000
set_option maxHeartbeats 4000000
/-! Mr11: dicts compared, more of lists, tuples assigned. -/
namespace Mr
open PySem L2 Dm PySem.Spec PyProof.Rows
section
variable {K : PySem.W.Frag} {W : WX} {P : List (Nat × Addr)} {ρ ρ' : List Addr} {Γ Γ' : MEnv} {S S1 T : Store} {G : Gam} {C C0 C1 C2 R : Cells} {te ta tb tc to ti td ty tv : TE} {tt tu : TT} {m ma mb mo mi mv : ME} {c c' : Cell} {mc : MCell} {d d' : Dat} {x : Val} {i k0 : Nat} {F H : Hp} {v : V} {ds es : List Dat} {a : Addr}
abbrev neverM : MS := fun _ _ => .bad
theorem rm_nv : RM K W P k0 tNever neverM := rm_never (m := neverM)
/-! ### == of dicts -/
def valOk (d : Dat) : Bool := okD d && decide (dpD d ≤ 60)
def deqK (ls : List (Key × Dat)) : List (Key × Dat) → Bool
  | [] => true
  | (k, d) :: r => match lookK ls k with
    | none => false
    | some e => deq d e && deqK ls r
theorem khits_of (l : Le F H) {ls : List (Key × Dat)} {us : List (Key × V)} (hl : ls.all (fun p => valOk p.2) = true) (rl : RepK K F ls us) : ∀ {ks : List (Key × Dat)} {vs : List (Key × V)}, ks.all (fun p => valOk p.2) = true → RepK K F ks vs → KHits K H us vs (deqK ls ks)
  | [], vs, _, r => by
    rw [repK_nil.1 r]
    exact .nil
  | (k, d) :: ks, vs, hk, r => by
    obtain ⟨v, r', rfl, h1, h2⟩ := repK_cons.1 r
    rw [List.all_cons, Bool.and_eq_true] at hk
    have ih := khits_of l hl rl hk.2 h2
    unfold deqK
    have hf := repK_find (k := k) rl
    cases e : lookK ls k with
    | none => exact .miss (hf.2 e)
    | some e' =>
      obtain ⟨u, hu, ru⟩ := hf.1 e' e
      have hm : valOk e' = true := by
        unfold lookK at e
        obtain ⟨p, hp, rfl⟩ := Option.map_eq_some_iff.1 e
        exact List.all_eq_true.1 hl p (List.mem_of_find?_eq_some hp)
      have h3 := hk.1
      unfold valOk at hm h3
      simp only [Bool.and_eq_true, decide_eq_true_eq] at hm h3
      have := KHits.hit hu (dp_rep l h3.1 h1) (dp_rep l hm.1 ru) (shaped_pyD h3.1 (by omega)) (shaped_pyD hm.1 (by omega)) ih
      rw [eqv_pyD h3.1 hm.1] at this
      exact this
theorem repK_len {F : Hp} : ∀ {ks : List (Key × Dat)} {vs : List (Key × V)}, RepK K F ks vs → vs.length = ks.length
  | [], vs, r => by rw [repK_nil.1 r] <;> rfl
  | (k, d) :: ks, vs, r => by
    obtain ⟨v, r', rfl, h1, h2⟩ := repK_cons.1 r
    rw [List.length_cons, List.length_cons, repK_len h2]
def pEqK (neg : Bool) : List Dat → PR
  | [.dK ks, .dK ls] => match decide (ks.length = ls.length) with
    | true => match ks.all (fun p => valOk p.2) && ls.all (fun p => valOk p.2) with
      | true => .d (dB (neg ^^ deqK ls ks))
      | false => .no
    | false => .d (dB neg)
  | _ => .no
theorem ok_eqK {neg : Bool} : POk K (r2L (rEqK K neg)) (pEqK neg) := fun ds => by
  unfold pEqK
  split
  · rename_i ks ls
    split
    · rename_i hl
      split
      · rename_i h
        rw [Bool.and_eq_true] at h
        refine rv_ret fun vs H F C l s rs => ?_
        obtain ⟨v, w, rfl, q1, q2⟩ := vws2 rs
        obtain ⟨a, us, rfl, h1, h2⟩ := vw_dK l s q1
        obtain ⟨b, ws, rfl, h3, h4⟩ := vw_dK l s q2
        refine ⟨_, rep_v.2 rfl, fun Q q => ⟨_, _, rfl, a, b, us, ws, deqK ls ks, rfl, rfl, h1, h3, fun _ => khits_of l h.2 h4 h.1 h2, ?_⟩⟩
        rw [repK_len h2, repK_len h4, hl, Bool.true_and]
        exact q
      · trivial
    · rename_i hl
      refine rv_ret fun vs H F C l s rs => ?_
      obtain ⟨v, w, rfl, q1, q2⟩ := vws2 rs
      obtain ⟨a, us, rfl, h1, h2⟩ := vw_dK l s q1
      obtain ⟨b, ws, rfl, h3, h4⟩ := vw_dK l s q2
      refine ⟨_, rep_v.2 rfl, fun Q q => ⟨_, _, rfl, a, b, us, ws, false, rfl, rfl, h1, h3, fun e => ?_, ?_⟩⟩
      · rw [repK_len h2, repK_len h4] at e
        exact absurd e (of_decide_eq_false hl)
      · rw [repK_len h2, repK_len h4, hl, Bool.false_and, Bool.xor_false]
        exact q
  · trivial
theorem hu65 {k : Nat} {A : Around} (h : Room k A) : A.units + 65 < cLine := by have := h.un; omega
/-! ### list(d.values()) -/
def listVM (m : ME) : ME := fun Γ S => (m Γ S).get fun x S1 => match rdS S1 x with
  | some (.dK kvs) => .n (.lst (kvs.map (·.2))) S1
  | _ => .bad
theorem repK_vals {F : Hp} : ∀ {ks : List (Key × Dat)} {vs : List (Key × V)}, RepK K F ks vs → Reps K F (ks.map (·.2)) (vs.map (·.2))
  | [], vs, r => by rw [repK_nil.1 r]; exact reps_nil.2 rfl
  | (k, d) :: ks, vs, r => by
    obtain ⟨v, r', rfl, h1, h2⟩ := repK_cons.1 r
    exact reps_cons.2 ⟨v, _, rfl, h1, repK_vals h2⟩
theorem em_listV (h : EM K W P td m) : EM K W P (tListV td) (listVM m) := fun ρ Γ S G C g s => by
  refine ex_get g s h (fun e C' hx => fun σ H F sa Q hq => hx σ H F sa _ hq) fun x S1 d C1 v1 s1 e1 => ?_
  split
  · rename_i kvs hr
    refine ⟨.lst (kvs.map fun p : Key × Dat => p.2), C1, (rfl : Cell.lst (kvs.map fun p : Key × Dat => p.2) = _), s1, fun σ H F sa Q hq => e1 σ H F sa _ fun v H1 F1 p1 sa1 r1 => ?_⟩
    obtain ⟨a, us, rfl, h1, h2⟩ := vw_dK sa1.le sa1.cel (vw_of v1 s1 hr r1)
    refine ⟨a, us, rfl, h1, fun p hp => ?_⟩
    obtain ⟨p2, l2, c2⟩ := post_new sa1.le sa1.cel hp (c := .lst (kvs.map fun p : Key × Dat => p.2)) (o := .lst (us.map fun p : Key × V => p.2)) ⟨_, rfl, repK_vals h2⟩
    exact hq p _ F1 (p1.trans p2) ⟨l2, sa1.gam, c2⟩ (p1.st _ hp)
  · trivial
/-! ### sorted(ints) -/
def srtI (is : List Int) : List Int := is.mergeSort (fun a b => decide (a ≤ b))
theorem srtI_perm (is : List Int) : (srtI is).Perm is := List.mergeSort_perm _ _
theorem srtI_pw (is : List Int) : (srtI is).Pairwise (· ≤ ·) := by
  have := List.pairwise_mergeSort (le := fun a b : Int => decide (a ≤ b)) (fun a b c h1 h2 => by simp at *; omega) (fun a b => by simp; omega) is
  exact this.imp fun h => of_decide_eq_true h
theorem perm_leI {xs ys : List Int} (hp : xs.Perm ys) (hx : xs.Pairwise (· ≤ ·)) (hy : ys.Pairwise (· ≤ ·)) : xs = ys :=
  hp.eq_of_pairwise (fun a b _ _ h1 h2 => by omega) hx hy
theorem dI_map (is : List Int) : is.map dI = (is.map V.int).map Dat.v := by rw [List.map_map] <;> rfl
theorem reps_mkI (is : List Int) : Reps K F (is.map dI) (is.map V.int) := by rw [dI_map]; exact reps_of _
def pSortI : List Dat → PR
  | [.lst ds] => match intsD ds with
    | some is => match decide (is.length < 64) with
      | true => .n (.lst ((srtI is).map dI))
      | false => .no
    | none => .no
  | _ => .no
theorem ok_sortI : POk K (rSorted K) pSortI := fun ds => by
  unfold pSortI
  split
  · split
    · rename_i ms e
      obtain rfl := intsD_eq e
      split
      · rename_i hl
        refine ⟨_, rfl, rv_new fun vs H F C l s rs => ?_⟩
        obtain ⟨v, rfl, q1⟩ := vws1 rs
        obtain ⟨a, us, rfl, h1, h2⟩ := vw_lst l s q1
        obtain rfl := reps_ints h2
        refine ⟨.lst ((srtI ms).map V.int), ⟨_, rfl, reps_mkI _⟩, fun Q q => ⟨a, ms, rfl, SqL.of h1, of_decide_eq_true hl, fun ys p hp hs hn => ?_⟩⟩
        rw [perm_leI (hp.trans (srtI_perm ms).symm) hs (srtI_pw ms)]
        exact q p hn
      · trivial
    · trivial
  · trivial
/-! ### list.remove -/
def remP (ds : List Dat) : List Dat → Option (Dat × List Dat)
  | [.v (.str z)] => match texts ds with
    | some ms => match ms.idxOf? z with
      | some j => some (dN, ((ms.eraseIdx j).map dS))
      | none => none
    | none => none
  | _ => none
theorem mt_rem : MtL K rRemS remP := fun ds es d ds' h a us vs H F l hH r1 r2 => by
  unfold remP at h
  split at h
  · rename_i z
    split at h
    · rename_i ms e
      obtain rfl := texts_eq e
      split at h
      · rename_i j hj
        cases h
        obtain rfl := reps_strs r1
        obtain ⟨v, rfl, hv⟩ := reps1 r2
        obtain rfl := rep_v.1 hv
        refine ⟨((ms.eraseIdx j).map V.str), .non, reps_mkS _, rep_v.2 rfl, fun Q q => ⟨a, ms, z, j, rfl, rfl, hH, ?_, ?_, q⟩⟩
        · rw [List.idxOf?_eq_some_iff] at hj
          obtain ⟨h1, h2, _⟩ := hj
          rw [List.getElem?_eq_getElem h1, h2]
        · rw [List.idxOf?_eq_some_iff] at hj
          obtain ⟨h1, _, h3⟩ := hj
          intro m hm hz
          rw [List.getElem?_eq_getElem (by omega)] at hz
          exact h3 m hm (Option.some.inj hz)
      · cases h
    · cases h
  · cases h
/-! ### methods of a list that only look -/
def bmR (f : List Dat → List Dat → PR) (mo : ME) (ms : List ME) : ME := fun Γ S => (mo Γ S).get fun x S1 => match rdS S1 x with
  | some (.lst _) => (argsM ms Γ S1).get fun xs S2 => match rdS S2 x, rdSs S2 xs with
    | some (.lst ds), some es => match f ds es with
      | .d d => .v (.p d) S2
      | _ => .bad
    | _, _ => .bad
  | _ => .bad
def MtV (K : PySem.W.Frag) (r : V → List V → Hp → VK → Prop) (f : List Dat → List Dat → PR) : Prop := ∀ ds es d, f ds es = .d d → ∀ a vs us H F C, Le F H → CSat K C H F → H a = some (.lst us) → Reps K F ds us → Vws K C F es vs → ∃ v, Rep K F d v ∧ ∀ Q : VK, Q v H → r (.ref a) vs H Q
theorem em_bmR {r : V → List V → Hp → VK → Prop} {f : List Dat → List Dat → PR} {ta : TA} {ms : List ME} (hf : MtV K r f) (ho : EM K W P to mo) (h : AM K W P ta ms) : EM K W P (tBM K "list" r to ta) (bmR f mo ms) := fun ρ Γ S G C g s => by
  refine ex_get g s ho (fun e C' hx => fun σ H F sa Q hq => hx σ H F sa _ hq) fun x S1 d C1 v1 s1 e1 => ?_
  split
  · rename_i ds0 hr0
    refine ax_get g s1 h (fun e C' hx => fun σ H F sa Q hq => e1 σ H F sa _ fun v H1 F1 p1 sa1 r1 => ?_) fun xs S2 es C2 vs2 s2 e2 => ?_
    · obtain ⟨a, us, rfl, h1, h2⟩ := vw_lst sa1.le sa1.cel (vw_of v1 s1 hr0 r1)
      exact ⟨.inl ⟨rfl, _, SqL.of h1⟩, hx σ H1 F1 sa1 _ fun dd C'' H2 F2 z p2 sa2 => hq dd C'' H2 F2 (z.st p1) (p1.trans p2) sa2⟩
    · split
      · rename_i ds fs hr1 hr2
        split
        · rename_i d' hfd
          refine ⟨d', C2, rfl, s2, fun σ H F sa Q hq => e1 σ H F sa _ fun v H1 F1 p1 sa1 r1 => ?_⟩
          obtain ⟨a, us, rfl, h1, h2⟩ := vw_lst sa1.le sa1.cel (vw_of v1 s1 hr0 r1)
          refine ⟨.inl ⟨rfl, _, SqL.of h1⟩, e2 σ H1 F1 sa1 _ fun vs H2 F2 p2 sa2 r2 => ?_⟩
          obtain ⟨a', us', ea, h1', h2'⟩ := vw_lst sa2.le sa2.cel (vw_of (v1) s2 hr1 (r1.kx p2.kx))
          cases ea
          obtain ⟨v', h3, h4⟩ := hf _ _ _ hfd a vs us' H2 F2 C2 sa2.le sa2.cel h1' h2' (vws_of vs2 s2 hr2 r2)
          exact h4 Q (hq v' H2 F2 (p1.trans p2) sa2 h3)
        · trivial
      · trivial
  · trivial
def idxP (ds : List Dat) : List Dat → PR
  | [.v u] => match valsD ds with
    | some us => match flatV u && us.all flatV with
      | true => match us.findIdx? (fun z => eqV z u) with
        | some j => .d (dI (j : Nat))
        | none => .no
      | false => .no
    | none => .no
  | _ => .no
theorem mt_idx : MtV K (rIndex K) idxP := fun ds es d h a vs us H F C l s hH r1 r2 => by
  unfold idxP at h
  split at h
  · rename_i u
    split at h
    · rename_i ws hw
      split at h
      · rename_i hfl
        rw [Bool.and_eq_true] at hfl
        split at h
        · rename_i j hj
          cases h
          rw [valsD_eq hw] at r1
          obtain rfl := reps_v r1
          obtain ⟨v, rfl, hv⟩ := vws1 r2
          obtain rfl := vw_v hv
          rw [List.findIdx?_eq_some_iff_getElem] at hj
          obtain ⟨h1, h2, h3⟩ := hj
          refine ⟨_, rep_v.2 rfl, fun Q q => ⟨a, us, v, j, us[j], rfl, rfl, SqL.of hH, hfl.1, hfl.2, List.getElem?_eq_getElem h1, h2, fun m z' hm hz => ?_, q⟩⟩
          rw [List.getElem?_eq_getElem (by omega)] at hz
          cases hz
          simpa using h3 m hm
        · cases h
      · cases h
    · cases h
  · cases h
def cntP (ds : List Dat) : List Dat → PR
  | [.v u] => match valsD ds with
    | some us => match flatV u && us.all flatV with
      | true => .d (dI (us.countP (fun z => eqV z u) : Nat))
      | false => .no
    | none => .no
  | _ => .no
theorem mt_cnt : MtV K (rCntF K) cntP := fun ds es d h a vs us H F C l s hH r1 r2 => by
  unfold cntP at h
  split at h
  · rename_i u
    split at h
    · rename_i ws hw
      split at h
      · rename_i hfl
        rw [Bool.and_eq_true] at hfl
        cases h
        rw [valsD_eq hw] at r1
        obtain rfl := reps_v r1
        obtain ⟨v, rfl, hv⟩ := vws1 r2
        obtain rfl := vw_v hv
        exact ⟨_, rep_v.2 rfl, fun Q q => ⟨a, us, v, rfl, rfl, SqL.of hH, hfl.1, hfl.2, q⟩⟩
      · cases h
    · cases h
  · cases h
/-! ### a, b, .. = e, e', .. by a tuple -/
def alsM : List (Bool × ME) → MEnv → Store → Option (List Val × Store)
  | [], _, S => some ([], S)
  | (f, m) :: ms, Γ, S => match (m Γ S).al f with
    | .v x S1 => match alsM ms Γ S1 with
      | some (xs, S2) => some (x :: xs, S2)
      | none => none
    | _ => none
def setAll : List Nat → List Val → MEnv → MEnv
  | i :: is, x :: xs, Γ => setAll is xs (Γ.set i (some x))
  | _, _, Γ => Γ
def parN (is : List Nat) (ms : List (Bool × ME)) : MS := fun Γ S => match decide (is.length = ms.length) && decide (ms.length ≤ 1000) with
  | true => match alsM ms Γ S with
    | some (xs, S1) => .nx (setAll is xs Γ) S1
    | none => .bad
  | false => .bad
def tAs : List TE → TA
  | [] => tNil
  | t :: ts => tCons t (tAs ts)
def gNs : List Nat → TGs
  | [] => gNil
  | i :: is => gCons (gName i) (gNs is)
inductive EMs (K : PySem.W.Frag) (W : WX) (P : List (Nat × Addr)) : List TE → List (Bool × ME) → Prop where
  | nil : EMs K W P [] []
  | cons {t : TE} {f : Bool} {m : ME} {ts : List TE} {ms : List (Bool × ME)} (h : EM K W P t m) (r : EMs K W P ts ms) : EMs K W P (t :: ts) ((f, m) :: ms)
theorem als_len : ∀ {ms : List (Bool × ME)} {Γ : MEnv} {S S1 : Store} {xs : List Val}, alsM ms Γ S = some (xs, S1) → xs.length = ms.length
  | [], Γ, S, S1, xs, h => by cases h; rfl
  | (f, m) :: ms, Γ, S, S1, xs, h => by
    unfold alsM at h
    split at h
    · split at h
      · rename_i e
        cases h
        rw [List.length_cons, List.length_cons, als_len e]
      · cases h
    · cases h
theorem als_run {e : Ent} {ts : List TE} {ms : List (Bool × ME)} (hm : EMs K W P ts ms) : ∀ {ρ : List Addr} {S S1 : Store} {C : Cells} {xs : List Val}, GR P ρ Γ G → SR ρ S C → OKr k0 ρ e.I → alsM ms Γ S = some (xs, S1) →
    xs.length = ms.length ∧ ∀ (σ : L2.St) (H F : Hp), AtF K e G C σ H F → ∀ k : List V → Hp → Prop, (∀ ρ' ds C' vs H' F', ρ <+: ρ' → OKr k0 ρ' e.I → VRs ρ' xs ds → SR ρ' S1 C' → AtF K e G C' σ H' F' → Post C F H C' F' H' → Reps K F' ds vs → k vs H') → (tAs ts) σ H k := by
  induction hm with
  | nil =>
    intro ρ S S1 C xs g s o e1
    cases e1
    exact ⟨rfl, fun σ H F q k hk => hk ρ [] C [] H F (preR ρ) o .nil s q Post.refl (reps_nil.2 rfl)⟩
  | @cons t f m ts ms h r ih =>
    intro ρ S S1 C xs g s o e1
    have h0 := al_run (f := f) (h ρ Γ S G C g s) o
    unfold alsM at e1
    revert h0 e1
    cases (m Γ S).al f with
    | v x S2 =>
      intro h0 e1
      dsimp only at e1
      split at e1
      · rename_i ys S3 e2
        cases e1
        refine ⟨?_, fun σ H F q k hk => ?_⟩
        · rw [List.length_cons, List.length_cons, als_len e2]
        · refine h0 σ H F q _ fun ρ1 d1 C1 v H1 F1 p1 o1 v1 s1 q1 po1 r1 => ?_
          exact (ih (g.mono p1) s1 o1 e2).2 σ H1 F1 q1 _ fun ρ2 ds C2 vs H2 F2 p2 o2 v2 s2 q2 po2 r2 =>
            hk ρ2 (d1 :: ds) C2 (v :: vs) H2 F2 (p1.trans p2) o2 (.cons (v1.mono p2) v2) s2 q2 (po1.trans po2) (reps_cons.2 ⟨v, vs, rfl, r1.kx po2.kx, r2⟩)
      · cases e1
    | ex e' S2 => exact fun _ e1 => nomatch e1
    | bad => exact fun _ e1 => nomatch e1
theorem gNs_run {Q : L2.St → Hp → Prop} : ∀ {is : List Nat} {xs : List Val} {ds : List Dat} {vs : List V} {G : Gam} {Γ : MEnv} {σ : L2.St}, is.length = xs.length → VRs ρ xs ds → Reps K F ds vs → GR P ρ Γ G → GSat K G σ F →
    (∀ G' σ', GR P ρ (setAll is xs Γ) G' → GSat K G' σ' F → Q σ' H) → gNs is vs σ H Q
  | [], xs, ds, vs, G, Γ, σ, hl, v, r, g, gs, q => by
    cases v with
    | nil =>
      rw [reps_nil.1 r]
      exact ⟨rfl, q G σ g gs⟩
    | cons h t => cases hl
  | i :: is, xs, ds, vs, G, Γ, σ, hl, v, r, g, gs, q => by
    cases v with
    | nil => cases hl
    | cons h t =>
      obtain ⟨u, us, rfl, r1, r2⟩ := reps_cons.1 r
      exact ⟨u, us, rfl, gNs_run (Nat.succ.inj hl) t r2 (g.set h) (gs.set r1) q⟩
theorem rm_parN {is : List Nat} {ts : List TE} {ms : List (Bool × ME)} {n : Nat} (hm : EMs K W P ts ms) (hn : is.length = n) : RM K W P k0 (tAsg (tTup (tAs ts)) (gTup K n (gNs is))) (parN is ms) := fun ρ Γ S G C e B g s o hr => by
  unfold parN at hr
  split at hr
  · rename_i hl
    simp only [Bool.and_eq_true, decide_eq_true_eq] at hl
    split at hr
    · rename_i xs S1 e1
      obtain ⟨l1, h1⟩ := als_run hm g s o e1
      intro σ H D ⟨F, q⟩ E
      refine h1 σ H F q _ fun ρ1 ds C1 vs H1 F1 p1 o1 v1 s1 q1 po1 r1 => ?_
      have l2 : vs.length = xs.length := by rw [← reps_len r1, v1.len]
      refine ⟨by rw [sizeLine_eq]; omega, fun T hT => ⟨T, vs, rfl, .inl (.inl upd_same), by omega, ?_⟩⟩
      obtain ⟨p2, l2', c2, kx⟩ := post_tup (xs := vs) q1.sa.le q1.sa.cel hT
      refine gNs_run (F := upd F1 T (.tup vs)) (by omega) v1 (r1.kx kx) (g.mono p1) (q1.sa.gam.kx kx) fun G' σ' g' gs' => ?_
      exact E.nx _ _ _ _ (hr ρ1 G' C1 p1 o1 g' s1) ⟨_, (q1.step p2 ⟨l2', gs', c2⟩)⟩
    · exact hr.elim
  · exact hr.elim
end
end Mr
end

section
set_option maxRecDepth 100000
set_option maxHeartbeats 4000000
/-! Fx2: own exceptions whose __init__ says super().__init__("..") and keeps its argument. -/
namespace SupX
open PySem PySem.W PySem.Calls PyProof.Rows PySem.HandSPX
section
open Builtin Builtin.ObjectAttr
variable {prog : Program} {w : World} {A : Around} {R : Result → Shared → Prop} {hp : Heap} {g : Array GenState} {d : Drawn} {t : Nat} {os : OsState} {B : String} {bmB : List Value}
theorem first_field {K : Frag} {f : Str} {tk : Tok} {u : Value} {e C : Addr} {fv : Array Value} (SF : StoreFacts B bmB "object.__setattr__" "object") (X : K.In hp)
    (he : hp.get? e = some { cls := .ref C, data := .fields fv }) (ov : excOver K C bmB = true) (nf : findIn K (.ref C) f = some none) (hd : hasDictIn K C = true)
    (fin : ∀ h' tk' dx, (∀ b o, b ≠ e → hp.get? b = some o → h'.get? b = some o) → hp.objs.size ≤ dx → dx ≠ e → h'.get? e = some { cls := .ref C, dict := some dx, data := .fields fv } → h'.Ns1 dx (fun y => if y = f then some u else none) → R (.ok (.ret .none)) ⟨h', g, d, tk', os⟩) :
    codeAny (model prog w) A (.call (.builtin "object.__setattr__") ⟨[.ref e, .str f tk, u], []⟩) R ⟨hp, g, d, t, os⟩ := by
  have tk0 : takerIn K C f = some none := by unfold takerIn; rw [nf]; rfl
  have ne0 : e ≠ hp.objs.size := Nat.ne_of_lt (Heap.lt_size he)
  refine osa_openX (od := none) SF X ⟨he, rfl, rfl, trivial⟩ ov tk0 fun b => ?_
  dsimp only
  cases hcd : clsIn K C with
  | none => unfold hasDictIn at hd; rw [hcd] at hd; cases hd
  | some cd =>
    have cl : Looks (model prog w) hp (classData C) cd := looks_clsIn X hcd
    have hd' : cd.hasDict = true := by unfold hasDictIn at hd; rw [hcd] at hd; exact hd
    obtain ⟨nm, bs, mro, ns, qn, hb, sn, sb, ab, col, del⟩ := cd
    obtain rfl : hb = true := hd'
    unfold storeInOwnDict ownDictForStores
    repeat (first | with_reducible refine HandSPX.store_in_new ?_ ?_ | with_reducible refine wpAny_loadPart_at he ?_ | with_reducible refine cl.at ?_ | wp_step)
    · exact ⟨_, #[], _, (Heap.get?_update_ne _ _ _ _ ne0.symm).trans (Heap.get?_push_at rfl rfl), rfl, fun a ha => absurd ha (by simp), fun _ => rfl⟩
    · intro h' tk' n1 sb
      have e1 : (hp.push { cls := .type "dict", data := .dict #[] }).get? e = some { cls := .ref C, data := .fields fv } := Heap.get?_push_of_some _ he
      refine fin h' tk' hp.objs.size (fun c o hc ho => ?_) (Nat.le_refl _) ne0.symm ?_ n1
      · exact (sb.2 c (Nat.ne_of_lt (Heap.lt_size ho))).trans ((Heap.get?_update_ne _ _ _ _ hc).trans (Heap.get?_push_of_some _ ho))
      · exact (sb.2 e ne0).trans (Heap.get?_update_self _ e1 rfl)
end

/-! ### the text of such an __init__ -/
def iA (fld : Str) (p1 p2 : Pos) : Arguments := { posonlyargs := [], args := [{ arg := "self", annotation := none, pos := p1 }, { arg := fld, annotation := none, pos := p2 }], vararg := none, kwonlyargs := [], kw_defaults := [], kwarg := none, defaults := [] }
def iB (fld msg : Str) (q1 q2 q3 q4 q5 q6 q7 q8 q9 q10 : Pos) (j : Nat) : List Stmt := [.Expr (.Call (.Attribute (.Call (.Name "super" q1) [] [] q2) "__init__" q3) [.Constant (.str msg) j q4] [] q5) q6, .Assign [.Attribute (.Name "self" q7) fld q8] (.Name fld q9) q10]
def iS (fld : Str) : Scope := { kind := .function, names := [(PySem.Str.ofString "self", .local), (fld, .local), (PySem.Str.ofString "__class__", .free), (PySem.Str.ofString "super", .globalImplicit)], isGenerator := false, isCoroutine := false, more := [] }
def IsInit (fld msg : Str) (ar : Arguments) (bd : List Stmt) (sc : Scope) : Prop := ∃ p1 p2 q1 q2 q3 q4 q5 q6 q7 q8 q9 q10 j, ar = iA fld p1 p2 ∧ bd = iB fld msg q1 q2 q3 q4 q5 q6 q7 q8 q9 q10 j ∧ sc = iS fld ∧ (q3.endLine == q5.line) = true
abbrev bnds (fld : Str) (x v : Value) : List (Str × Value) := [(PySem.Str.ofString "self", x), (fld, v)]
structure OkFld (fld : Str) : Prop where
  l1 : (iS fld).names.lookup fld = some .local
  l2 : (iS fld).names.lookup (PySem.Str.ofString "super") = some .globalImplicit
  l3 : (iS fld).names.lookup (PySem.Str.ofString "__class__") = some .free
  ne : ("self" : Str) ≠ fld
  db : (fld == ("__debug__" : Str)) = false
  bnd : ∀ (q : Str) (p1 p2 : Pos) (bd : List Stmt) (kV doc pm cdv ct x v : Value) (an : Option Addr) (cc : Addr), bindArgs (ksFn "__init__" q (iA fld p1 p2) bd (iS fld) .none kV doc pm an cdv ct cc) ⟨[x, v], []⟩ = pure (bnds fld x v)
theorem okf_name : OkFld "name" := ⟨rfl, rfl, rfl, by decide, by decide, fun _ _ _ _ _ _ _ _ _ _ _ _ _ => by first | rfl | with_unfolding_all rfl⟩
theorem okf_number : OkFld "number" := ⟨rfl, rfl, rfl, by decide, by decide, fun _ _ _ _ _ _ _ _ _ _ _ _ _ => by first | rfl | with_unfolding_all rfl⟩
theorem okf_limit : OkFld "limit" := ⟨rfl, rfl, rfl, by decide, by decide, fun _ _ _ _ _ _ _ _ _ _ _ _ _ => by first | rfl | with_unfolding_all rfl⟩
/-- what the class at C, of the name n, and its __init__ at fI say -/
structure SupC (prog : Program) (K : Frag) (fld : Str) (C fI : Addr) (B newId initId : String) (bmB : List Value) : Prop where
  ini : excInitIn K C bmB newId = true
  ovr : excOver K C bmB = true
  sa : findIn K (.ref C) "__setattr__" = some (some (.builtin "object.__setattr__"))
  nf : findIn K (.ref C) fld = some none
  iC : findIn K (.ref C) "__init__" = some (some (.ref fI))
  tC : isFn K (.ref fI) = true
  hd : hasDictIn K C = true
  sup : ks_superIn K C C "__init__" = some (some (.builtin initId))
  sB : subIn K (.ref C) (.type B) = some true
  opq : nsIn K cStatics "thirdparty.any" = some none
  mro : mroIn K C (.ref C) = some true
  top : (prog.main.scope.names.lookup ("super" : Str)).isSome = false
  fn : ∃ (q msg : Str) (ar : Arguments) (bd : List Stmt) (sc : Scope) (oc kV doc pm ct : Value) (od an : Option Addr) (osl : Array (Option Value)) (cda cc : Addr) (ccl cl : Value) (cdd cld : Option Addr) (vs : Array Value) (ccs csl : Array (Option Value)) (file : Str) (tf : Tok),
    IsInit fld msg ar bd sc ∧ K.lookup fI = some ⟨oc, od, .func (ksFn "__init__" q ar bd sc .none kV doc pm an (.ref cda) ct cc), osl⟩ ∧ codeIn K (.ref cda) q = true ∧
    K.lookup cda = some ⟨ccl, cdd, .fields vs, ccs⟩ ∧ vs[2]? = some (.str file tf) ∧ ((prog.main.file : Str) == file) = true ∧ K.lookup cc = some ⟨cl, cld, .cell (some (.ref C)), csl⟩
/-- what __init__ leaves of the exception at x that was laid behind h -/
structure InitEnd (h h' : Heap) (x C dx t1 : Addr) (f : Str) (v : Value) : Prop where
  keep : ∀ b o, h.get? b = some o → h'.get? b = some o
  obj : h'.get? x = some { cls := .ref C, dict := some dx, data := .fields #[.ref t1, .none, .none, .none, .bool false, .none] }
  dbig : h.objs.size ≤ dx
  dne : dx ≠ x
  ns : h'.Ns1 dx (fun y => if y = f then some v else none)
theorem eval_sup {env : Env} {q1 q2 q3 q4 q5 : Pos} {msg : Str} {j : Nat} (hl : (q3.endLine == q5.line) = true) : eval (.Call (.Attribute (.Call (.Name "super" q1) [] [] q2) "__init__" q3) [.Constant (.str msg) j q4] [] q5) env = (do
    let ov ← attributeBase (.Call (.Name "super" q1) [] [] q2) "__init__" env (eval (.Call (.Name "super" q1) [] [] q2) env)
    standAt q3.atName
    let (f, first) ← holding [ov] (getMethod ov "__init__" (do return (← importBound (.Call (.Name "super" q1) [] [] q2) env).getD true))
    callWith q5 f first (backTo q5 (starEach [.Constant (.str msg) j q4] env)) []) := by
  have hpos : methodCallPos true (.Call (.Name "super" q1) [] [] q2) env q3 q5 = pure q5 := by unfold methodCallPos; simp [hl]
  rw [arm_eval_Call]
  unfold methodCall
  rw [show methodCallForm (([.Constant (.str msg) j q4] : List Expr).length + ([] : List Keyword).length) (backTo q5 (starEach [.Constant (.str msg) j q4] env)) (backToKw q5 (keywordEach [] env)) = true from rfl]
  simp only [hpos, pure_bind]
  rfl
section
variable {prog : Program} {w : World} {A : Around} {R : Result → Shared → Prop} {s : Shared} {K : Frag} {mg : Str → Option Value} {C fI : Addr} {fld : Str} {B newId initId : String} {bmB : List Value}
theorem sup_init (FB : ExcBaseFacts B newId initId bmB) (KF : KxsFacts B initId) (SF : StoreFacts B bmB "object.__setattr__" "object") (OF : OkFld fld) (T : SupC prog K fld C fI B newId initId bmB) {h₀ : Heap} {x t0 : Addr} {v : Value} (X0 : K.In h₀) (k0 : ∀ b o, h₀.get? b = some o → s.heap.get? b = some o) (hsz : h₀.objs.size ≤ s.heap.objs.size)
    (gl : h₀.Ns mainGlobals mg) (gs : mg "super" = none) (bl : ∃ mb, h₀.Ns builtinsNs mb ∧ ∀ x : Str, x ≠ "__name__" → mb x = bootBuiltins x) (hlim : s.heap.NoLimit) (hx : s.heap.get? x = some (excO C t0)) (hx0 : h₀.get? x = none) (hroom : A.depth < recursionLimit)
    (hq : ∀ h' tk dx t1, InitEnd h₀ h' x C dx t1 fld v → R (.ok (.ret .none)) { s with heap := h', toks := tk }) :
    codeAny (model prog w) A (.call (.ref fI) ⟨[.ref x, v], []⟩) R s := by
  obtain ⟨q, msg, ar, bd, sc, oc, kV, doc, pm, ct, od, an, osl, cda, cc, ccl, cl, cdd, cld, vs, ccs, csl, file, tf, ⟨p1, p2, q1, q2, q3, q4, q5, q6, q7, q8, q9, q10, j, rfl, rfl, rfl, hline⟩, ho, hcd, hcode, hvs, hfile, hcell⟩ := T.fn
  have X : K.In s.heap := X0.keeps k0
  refine ks_codeAny_call_defAt (fd := ksFn "__init__" q (iA fld p1 p2) (iB fld msg q1 q2 q3 q4 q5 q6 q7 q8 q9 q10 j) (iS fld) .none kV doc pm an (.ref cda) ct cc) (body := iB fld msg q1 q2 q3 q4 q5 q6 q7 q8 q9 q10 j) (binds := bnds fld (.ref x) v) hroom (X _ _ ho) rfl hlim (codeRec_of X hcd) rfl
    (BindsTo.of_eq (OF.bnd _ _ _ _ _ _ _ _ _ _ _ _ _)) ?_ ?_ (fun h₁ hns hk₁ => ?_) rfl rfl rfl
  · show ∀ z ∈ (iS fld).names, z.2 ≠ .cell
    unfold iS
    simp
  · show ∀ z ∈ bnds fld (.ref x) v, (iS fld).names.lookup z.1 = some .local
    intro z hz
    simp only [bnds, List.mem_cons, List.not_mem_nil, or_false] at hz
    rcases hz with rfl | rfl
    · rfl
    · exact OF.l1
  have k1 : ∀ b o, h₀.get? b = some o → h₁.get? b = some o := fun b o e => hk₁ b o (k0 b o e)
  have X1 : K.In h₁ := X0.keeps k1
  have hx1 := hk₁ _ _ hx
  have hle : h₀.objs.size ≤ s.heap.objs.size := hsz
  have F1 : Fr h₀ s.heap.objs.size h₁ (fun y => (bnds fld (.ref x) v).reverse.lookup y) := ⟨hns, k1, hle⟩
  have N1 : News h₀ s.heap.objs.size h₁ [(x, excO C t0)] := by
    intro p hp
    obtain rfl := List.mem_singleton.1 hp
    exact ⟨hx1, Nat.ne_of_lt (Heap.lt_size hx), hx0⟩
  have ms : (bnds fld (.ref x) v).reverse.lookup (PySem.Str.ofString "self") = some (.ref x) := by
    show List.lookup (PySem.Str.ofString "self") [(fld, v), (PySem.Str.ofString "self", .ref x)] = _
    rw [List.lookup_cons, show ((PySem.Str.ofString "self" : Str) == fld) = false from by simpa using OF.ne]
    rfl
  have mf : (bnds fld (.ref x) v).reverse.lookup fld = some v := by
    show List.lookup fld [(fld, v), (PySem.Str.ofString "self", .ref x)] = _
    rw [List.lookup_cons, beq_self_eq_true]
  have I1 : InstAt h₁ x (excO C t0) C none := ⟨hx1, rfl, rfl, trivial⟩
  obtain ⟨cD, hD⟩ : ∃ cD, clsIn K C = some cD := by
    have h := T.hd
    unfold hasDictIn at h
    cases e : clsIn K C with
    | none => rw [e] at h; cases h
    | some c => exact ⟨c, rfl⟩
  obtain ⟨oD, hD1, hD2⟩ : ∃ oD, h₁.get? C = some oD ∧ oD.data = .cls cD := by
    unfold clsIn at hD
    split at hD
    · rename_i c d cd' sl hl
      cases hD
      exact ⟨_, X1 _ _ hl, rfl⟩
    · cases hD
  obtain ⟨mb, hmb, hbt⟩ := bl
  refine ks_wpAt_execs_cons (ks_wpAt_Expr_any (ks_wpAt_MethodCall (he := eval_sup hline) ?_))
  refine ks_wpAt_super_base (env := ksEnv q (iS fld) s.heap.objs.size fI (.ref cda) cc) (of := _) (fd := _) OF.l2 OF.l3 rfl rfl (X1 _ _ ho) rfl rfl rfl (X1 _ _ hcode) rfl hvs hfile T.top ?_
  refine ks_loadName_global rfl OF.l2 (loadGlobal_builtin (env := ksEnv q (iS fld) s.heap.objs.size fI (.ref cda) cc) (gl.keeps k1) gs (hmb.keeps k1) ((hbt _ (by decide)).trans (by first | rfl | kernel_rfl)) ⟨rfl, ?_⟩)
  refine wpAny_loadName_free rfl OF.l3 rfl ⟨_, X1 _ _ hcell, rfl⟩ ?_
  refine wpAny_loadName_local rfl rfl hns ms ?_
  refine ks_wpAny_isType_cls hD1 hD2 ⟨rfl, ?_⟩
  refine ks_wpAny_call_super hD1 hD2 hx1 rfl (fun c e => by cases e) (looks_mroIn X1 T.mro) (fun h2 e2 k2 => ?_)
  have X2 : K.In h2 := X1.keeps k2
  have x2 : h2.get? x = some (excO C t0) := k2 _ _ hx1
  have lL : s.heap.objs.size < h₁.objs.size := hns.lt
  have xC : x ≠ C := by
    rintro rfl
    rw [hx1] at hD1
    cases hD1
    cases hD2
  have hsup : alongIn K "__init__" ((cD.mro.dropWhile (· != .ref C)).drop 1) = some (some (.builtin initId)) := by
    have h := T.sup
    unfold ks_superIn at h
    rw [hD] at h
    exact h
  have I2 : InstAt h2 x (excO C t0) C none := ⟨x2, rfl, rfl, trivial⟩
  refine kxs_getMethod KF e2 (looks_opaque X2 T.opq) (l₀ := cD.mro) (fun A Q E s k q => wpAny_bind ((looks_clsIn X2 hD) A _ E s k (wpAny_pure q))) rfl X2 hsup (I2.type.andThen (looks_subIn X2 T.sB)) xC rfl ?_
  have s2 : h₁.objs.size < h2.objs.size := Heap.lt_size e2
  have k3 : ∀ b o, h2.get? b = some o → (h2.push (kxs_mw initId x)).get? b = some o := fun b o e => Heap.get?_push_of_some _ e
  have u3 : (h2.push (kxs_mw initId x)).get? h2.objs.size = some (kxs_mw initId x) := Heap.get?_push_at rfl rfl
  have kk : ∀ b o, h₁.get? b = some o → (h2.push (kxs_mw initId x)).get? b = some o := fun b o e => k3 b o (k2 b o e)
  have F3 : Fr h₀ s.heap.objs.size (h2.push (kxs_mw initId x)) (fun y => (bnds fld (.ref x) v).reverse.lookup y) := ⟨hns.keeps kk, fun b o e => kk b o (k1 b o e), hle⟩
  have n3 : h₀.get? h2.objs.size = none := by
    cases e : h₀.get? h2.objs.size with
    | none => rfl
    | some o => exact absurd (Heap.lt_size (k2 _ _ (k1 _ _ e))) (Nat.lt_irrefl _)
  have N3 : News h₀ s.heap.objs.size (h2.push (kxs_mw initId x)) [(h2.objs.size, kxs_mw initId x), (x, excObj C t0 none .none)] := by
    intro p hp
    simp only [List.mem_cons, List.not_mem_nil, or_false] at hp
    rcases hp with rfl | rfl
    · exact ⟨u3, Nat.ne_of_gt (Nat.lt_trans lL s2), n3⟩
    · exact ⟨kk _ _ hx1, Nat.ne_of_lt (Heap.lt_size hx), hx0⟩
  have ux : h2.objs.size ≠ x := Nat.ne_of_gt (Heap.lt_size x2)
  refine kxs_callWith (i := initId) (x := x) rfl (Calls.evalArgs_plain (Calls.spliced_cons (Calls.Constant_str (k := j) (pos := q4) (Calls.spliced_nil ⟨u3, ?_⟩))))
  refine kxs_call (s := ⟨h2.push (kxs_mw initId x), _, _, _, _⟩) (rest := [.str msg _]) (nw := fun o => [(h2.objs.size, kxs_mw initId x), (x, o)]) F3 X0 N3 FB T.ini List.mem_cons_self (.tail ux (.head (fun p hp => nomatch hp))) (by show 1 ≤ sizeLine; rw [sizeLine_eq]; omega) fun t1 h4 F4 N4 l4 => ?_
  dsimp only
  have x4 : h4.get? x = some (excO C t1) := (N4 (x, excObj C t1 none .none) (by simp)).1
  have X4 : K.In h4 := X0.keeps F4.keep
  refine ks_wpAt_execs_cons (wpAt_of_wpAny (plainObj_wpAny_Assign_Attribute ?_))
  refine wpAny_Name (wpAny_loadName_local rfl OF.l1 F4.ns mf ?_) OF.db
  refine wpAny_Name (wpAny_loadName_local rfl rfl F4.ns ms ?_) (by decide)
  refine set_plain X4 (ox := excO C t1) (od := none) ⟨x4, rfl, rfl, trivial⟩ T.sa ?_
  refine first_field SF X4 x4 T.ovr T.nf T.hd fun h5 tk5 dx k5 dn dne x5 n5 => ?_
  show PySem.wpAt _ _ _ (execs _ _) _ _ _
  refine wpAt_of_wpAny (wpAny_execs_nil (hq h5 tk5 dx t1 ⟨fun b o e => k5 b o (fun z => ?_) (F4.keep b o e), x5, ?_, dne, n5⟩))
  · rw [z, hx0] at e; cases e
  · exact Nat.le_trans hle (Nat.le_trans (Nat.le_of_lt F4.ns.lt) dn)
/-- a made exception at e: its own dict d holds the field -/
structure SupMade (h h' : Heap) (e C d : Addr) (f : Str) (v : Value) : Prop where
  keep : ∀ b o, h.get? b = some o → h'.get? b = some o
  new : h.objs.size ≤ e
  obj : ∃ oe vs, h'.get? e = some oe ∧ oe.cls = .ref C ∧ oe.dict = some d ∧ oe.data = .fields vs ∧ vs[1]? = some .none ∧ vs[3]? = some .none
  dbig : h.objs.size ≤ d
  dne : d ≠ e
  ns : h'.Ns1 d (fun y => if y = f then some v else none)
theorem sup_made (FB : ExcBaseFacts B newId initId bmB) (KF : KxsFacts B initId) (SF : StoreFacts B bmB "object.__setattr__" "object") (OF : OkFld fld) (T : SupC prog K fld C fI B newId initId bmB) {h₀ : Heap} {v : Value} (X0 : K.In h₀) (k0 : ∀ b o, h₀.get? b = some o → s.heap.get? b = some o)
    (gl : h₀.Ns mainGlobals mg) (gs : mg "super" = none) (bl : ∃ mb, h₀.Ns builtinsNs mb ∧ ∀ x : Str, x ≠ "__name__" → mb x = bootBuiltins x) (hlim : s.heap.NoLimit) (hroom : A.depth + 1 < recursionLimit)
    (hq : ∀ h' tk e d, SupMade s.heap h' e C d fld v → R (.ok (.ret (.ref e))) { s with heap := h', toks := tk }) :
    codeAny (model prog w) A (.call (.ref C) ⟨[v], []⟩) R s := by
  have X : K.In s.heap := X0.keeps k0
  obtain ⟨nm, N', qn, bs, bm, hdct, sn, sub, ab, col, dd, a0, a1, a2, a3, a5, hC, hT⟩ := excInit_of X T.ini
  obtain ⟨hp, g, d, tk, os⟩ := s
  have k : ∀ b o, hp.get? b = some o → ((hp.push (kdv_tup [v])).push (excO C hp.objs.size)).get? b = some o := fun b o e => Heap.get?_push_of_some _ (Heap.get?_push_of_some _ e)
  have hget : ((hp.push (kdv_tup [v])).push (excO C hp.objs.size)).get? (hp.objs.size + 1) = some (excO C hp.objs.size) := by heap_get
  have none1 : ∀ (g0 : Heap), (∀ b o, g0.get? b = some o → hp.get? b = some o) → g0.get? (hp.objs.size + 1) = none := fun g0 kg => by
    cases e : g0.get? (hp.objs.size + 1) with
    | none => rfl
    | some o => exact absurd (Nat.lt_of_succ_lt (Heap.lt_size (kg _ _ e))) (Nat.lt_irrefl _)
  have zz : [v].length ≤ sizeLine := by rw [sizeLine_eq]; exact (by decide : 1 ≤ 16777216)
  refine call_own FB hT hC (looks_findIn X T.iC) (fun self => bind_fn X self (beq_iff_eq.mp T.tC)) zz ?_
  refine sup_init (s := ⟨(hp.push (kdv_tup [v])).push (excO C hp.objs.size), g, d, tk, os⟩) FB KF SF OF T (h₀ := hp) X k ?_ (gl.keeps k0) gs (let ⟨mb, h1, h2⟩ := bl; ⟨mb, h1.keeps k0, h2⟩) (hlim.keeps k) hget (none1 hp fun _ _ e => e) ?_ fun h' tk' dx t1 M => ?_
  · show hp.objs.size ≤ ((hp.push (kdv_tup [v])).push (excO C hp.objs.size)).objs.size
    rw [Heap.size_push, Heap.size_push]
    omega
  · show A.depth + 1 < recursionLimit
    exact hroom
  · exact ⟨rfl, hq h' tk' (hp.objs.size + 1) dx ⟨M.keep, Nat.le_succ _, ⟨_, _, M.obj, rfl, rfl, rfl, rfl, rfl⟩, M.dbig, M.dne, M.ns⟩⟩
end
end SupX

namespace L2
open PySem PySem.Spec PyProof.Rows SupX
theorem relO_one {v : V} {v' : Value} (r : RelV v v') (f g : Str) : RelO (List.lookup g [(f, v)]) (if g = f then some v' else none) := by
  by_cases hw : g = f
  · subst hw
    rw [if_pos rfl, List.lookup_cons, beq_self_eq_true]
    exact r
  · have q : (g == f) = false := by simpa using hw
    rw [if_neg hw, List.lookup_cons, q]
    trivial
section
variable {X : Cx} {C fI : Addr} {n fld : Str} {B newId initId : String} {bmB : List Value}
/-- n(e), n an own exception with the field fld -/
def tMkSup (C : Addr) (fld : Str) (ta : TA) : St → Hp → XK → Prop := fun σ H Q => ta σ H fun vs H1 => ∃ v, vs = [v] ∧ ∀ d, H1 d = none → Q (.ref C) (some d) (upd H1 d (.xd [(fld, v)]))
theorem pmk_sup {e : Expr} {ta : TA} {p pos : Pos} {k : Nat} (FB : ExcBaseFacts B newId initId bmB) (KF : PySem.W.KxsFacts B initId) (SF : StoreFacts B bmB "object.__setattr__" "object") (OF : OkFld fld) (T : SupC X.prog X.K fld C fI B newId initId bmB)
    (gC : X.mg n = some (.ref C)) (gs : X.mg "super" = none) (kC : PySem.W.keepIn X.K (.ref C) = true) (r : Raises X (.ref C)) (hr : Room k X.A) (ha : PA X [e] ta) (hg : Gl X n) (hdb : (n == ("__debug__" : Str)) = false := by decide)
    (he : starEach (e :: []) X.env = (false, eval e X.env) :: starEach [] X.env := by rfl) (hpl : (backTo pos (starEach [] X.env)).any (·.1) = false := by rfl) :
    PMk X (.Call (.Name n p) [e] [] pos) (tMkSup C fld ta) := by
  intro pins s σ H Q I h
  refine wpAny_Call_Name_kw (ld_glob I hg gC ?_ hdb)
  refine PySem.W.callWith_K (h₀ := X.base) I.ok.mod.kin kC (thn (ha.run pos pins s σ H _ I h) fun us s1 hh => ?_) he hpl
  obtain ⟨vs, H1, I1, r1, v, ev, q1⟩ := hh
  subst ev
  refine ⟨I1.kIn, ?_⟩
  cases r1 with
  | cons rv rn =>
    rename_i v' us'
    cases rn
    show wpAny _ _ (call (.ref C) [v']) _ _ _
    have hlim := I1.nolimit
    have bk1 := I1.bk
    obtain ⟨hp, g, dr, tk, os⟩ := s1
    refine wpAny_call (sup_made (h₀ := X.base) FB KF SF OF T I.ok.mod.kin bk1 I.ok.mod.glob gs I.ok.mod.blt hlim (by have := hr.dp; omega) fun h' tk' e d M => ?_)
    show MkP X pins σ Q (.ref e) ⟨h', g, dr, tk', os⟩
    obtain ⟨oe, fv, hoe, hc, hd, hdat, h1, _⟩ := M.obj
    have hns := M.ns
    obtain ⟨G', g1, g2⟩ := restrict h' fun b => decide (b ≠ e)
    have gk : ∀ b, b ≠ e → G'.get? b = h'.get? b := fun b hb => g1 b (decide_eq_true hb)
    have ge : G'.get? e = none := g2 e (by simp)
    have old : ∀ b o, hp.get? b = some o → G'.get? b = some o := fun b o q => (gk b (Nat.ne_of_lt (Nat.lt_of_lt_of_le (Heap.lt_size q) M.new))).trans (M.keep b o q)
    have ob : ObjOk X.prog X.w (upd H1 d (.xd [(fld, v)])) G' d (.xd [(fld, v)]) :=
      ⟨_, hns.at (fun o q => (gk d M.dne).trans q), fun f => relO_one rv fld f⟩
    have J : Inv X pins σ (upd H1 d (.xd [(fld, v)])) ⟨G', g, dr, tk', os⟩ := I1.laid (t' := tk') old M.dbig ob
    refine ⟨e, oe, fv, ⟨G', g, dr, tk', os⟩, _, .ref C, some d, rfl, J, fun b o q => ?_, ge, hoe, ⟨hc, hd⟩, hdat, h1, ?_, rfl, I1.bare, r, q1 d (I1.hok.fresh M.dbig)⟩
    · by_cases hb : b = e
      · have q' : G'.get? b = some o := q
        rw [hb, ge] at q'; cases q'
      · exact (gk b hb).symm.trans q
    · rw [upd_ne (Ne.symm M.dne)]
      exact I1.hok.fresh M.new
end
end L2
end

section
set_option maxRecDepth 100000
set_option maxHeartbeats 4000000
/-! Mr12: exceptions with a field: raised, caught, read; isinstance of them. -/
namespace L2
open PySem PySem.Spec PyProof.Rows
section
variable {X : Cx}
/-- isinstance(e, c), e the exception that the suite holds, with a dict of its own -/
def rIsXd (K : PySem.W.Frag) (a : Addr) (cls : Value) (d : Option Addr) : List V → Hp → VK → Prop := fun xs H Q => ∃ D dd fs, cls = .ref D ∧ d = some dd ∧ H dd = some (.xd fs) ∧ ExcC K D ∧ rIsE K D a xs H Q
theorem call_isXd {a : Addr} {oe : Obj} {cls : Value} {d : Option Addr} {pn : List (Addr × Obj)} (hz : Zc cls d oe) (hf : ∃ vs, oe.data = .fields vs) : CallR (X.suite a ((a, oe) :: pn)) (.builtin "isinstance") (rIsXd X.K a cls d) := by
  intro pins s σ H xs us Q I r h
  obtain ⟨D, dd, fs, rfl, rfl, hd, C, c, cv, b, rfl, hcv, e, q⟩ := h
  cases r with
  | cons rx rr =>
    cases rr with
    | cons rt rr =>
      cases rr
      cases rx
      have ec := hcv _ rt
      subst ec
      obtain ⟨hget, _⟩ := I.pin (a, oe) (List.mem_append.mpr (.inl List.mem_cons_self))
      obtain ⟨vs, hv⟩ := hf
      have hx : ObjOk X.prog X.w H s.heap dd (.xd fs) := I.hok dd _ hd
      obtain ⟨mA, hns, hr⟩ := hx
      obtain ⟨od, ho, hl⟩ := lookIn_ns hns
      have J : PySem.W.InstAt s.heap a oe D (some od) := by
        obtain ⟨oc, od', oda, osl⟩ := oe
        obtain ⟨h1, h2⟩ := hz
        dsimp only at h1 h2 hv
        subst h1 h2 hv
        exact ⟨hget, rfl, rfl, ho⟩
      have hcl : (PySem.W.clsIn X.K D).isSome = true := by
        obtain ⟨cd, hc, _⟩ := PySem.W.any_some C.hd
        rw [hc] <;> rfl
      exact PySem.W.kia_one (PySem.W.kitx_exc (od := some od) hcl C.hg C.hk C.hs C.ha C.hn C.ht C.hm) I.kIn J e (fun z => nomatch z) fun tk => ⟨.bl b, H, I.kept (t' := tk) fun _ _ z => z, rfl, q⟩
end
end L2

namespace Dm
open PySem L2
theorem repF_get {K : PySem.W.Frag} {F : Hp} {f : Str} : ∀ {ds : List (Str × Dat)} {vs : List (Str × V)} {d : Dat}, RepF K F ds vs → ds.lookup f = some d → ∃ v, vs.lookup f = some v ∧ Rep K F d v
  | [], vs, d, _, e => by cases e
  | (k, x) :: ds, vs, d, r, e => by
    obtain ⟨v, t, rfl, h1, h2⟩ := repF_cons.1 r
    rw [List.lookup_cons] at e
    by_cases q : f = k
    · subst q
      rw [beq_self_eq_true] at e
      cases e
      exact ⟨v, by rw [List.lookup_cons, beq_self_eq_true], h1⟩
    · have z : (f == k) = false := by simpa using q
      rw [z] at e
      obtain ⟨w, q1, q2⟩ := repF_get h2 e
      exact ⟨w, by rw [List.lookup_cons, z]; exact q1, q2⟩
section
variable {K : PySem.W.Frag} {Γ Γ' : Gam} {C C1 C2 R : Cells} {ta : TA} {d : Dat} {W : WX} {x : Exn} {e : Ent} {B : Bd}
/-- raise, made with a dict -/
theorem r_raiseF {cn fld : Str} (h : EvA K ta Γ C [d] C1) (k : B.xc ⟨cn, some [(fld, d)]⟩ Γ C1) : Run K W (tRs W (tMkSup (clOf K cn) fld ta)) e Γ C B := fun σ H D ⟨F, a⟩ E =>
  h σ H F a.sa _ fun vs H1 F1 p1 s1 r1 => by
    obtain ⟨v, vs', rfl, r2, r3⟩ := reps_cons.1 r1
    obtain rfl := reps_nil.1 r3
    refine ⟨v, rfl, fun dd hd => ?_⟩
    obtain ⟨p2, l2, c2⟩ := post_new (o := .xd [(fld, v)]) s1.le s1.cel hd (c := .xd [(fld, d)]) ⟨_, rfl, repF_cons.2 ⟨v, [], rfl, r2, repF_nil.2 rfl⟩⟩
    have a1 := a.step p1 s1
    exact E.xc ⟨cn, some [(fld, d)]⟩ _ _ σ (some dd) _ _ F1 k ⟨dd, rfl, rfl, noP a1.po hd⟩ (a1.step p2 ⟨l2, s1.gam, c2⟩)
theorem r_raiseX {cn fld : Str} {t : TA} (h : Mr.EvAX K W t Γ C x C1) (k : B.xc x Γ C1) : Run K W (tRs W (tMkSup (clOf K cn) fld t)) e Γ C B := fun σ H D ⟨F, a⟩ E =>
  h σ H F a.sa _ fun dd C2 H1 F1 z1 p1 s1 => E.xc _ _ _ _ _ _ _ _ k (z1.np a.po) (a.step p1 s1)
end
end Dm
namespace Mr
open PySem L2 Dm PySem.Spec PyProof.Rows
section
variable {K : PySem.W.Frag} {W : WX} {P : List (Nat × Addr)} {ρ ρ' : List Addr} {Γ Γ' : MEnv} {S S1 T : Store} {G : Gam} {C C0 C1 C2 R : Cells} {te ta : TE} {m ma mb : ME} {c c' : Cell} {mc : MCell} {d d' : Dat} {x : Val} {i k0 : Nat} {F H : Hp} {v : V} {a : Addr}
/-- raise cn(e), the field of the name fld -/
def raiseF1 (cn fld : Str) (Γ : MEnv) (xs : List Val) (S : Store) : Rs := match xs with
  | [.p d] => .ex ⟨cn, some [(fld, d)]⟩ Γ S
  | _ => .bad
def raiseFM (cn fld : Str) (ms : List ME) : MS := fun Γ S => match argsM ms Γ S with
  | .a xs S1 => raiseF1 cn fld Γ xs S1
  | .ex e S1 => .ex e Γ S1
  | .bad => .bad
theorem rm_raiseF {cn fld : Str} {Cc : Addr} {ta : TA} {ms : List ME} (hc : clOf K cn = Cc) (h : AM K W P ta ms) : RM K W P k0 (tRs W (tMkSup Cc fld ta)) (raiseFM cn fld ms) := fun ρ Γ S G C e B g s o hr => by
  subst hc
  have h0 := h ρ Γ S G C g s
  unfold raiseFM at hr
  revert h0 hr
  cases argsM ms Γ S with
  | a xs S1 =>
    intro hr ⟨ds, C1, h1, h2, h3⟩
    unfold raiseF1 at hr
    dsimp only at hr
    split at hr
    · rename_i d
      cases h1 with
      | cons q t =>
        cases t
        obtain rfl := q
        exact r_raiseF h3 (hr ρ _ _ (preR ρ) o g h2)
    · exact hr.elim
  | ex e' S1 => exact fun hr ⟨C1, h2, h3⟩ => r_raiseX h3 (hr ρ _ _ (preR ρ) o g h2)
  | bad => exact fun hr => hr.elim
/-- a suite for exceptions with fields -/
def wFs (s : Str → Nat → MS) : Exn → Nat → MS := fun x ka => match x.fs with
  | some _ => s x.cls ka
  | none => fun _ _ => .bad
theorem suiteF {c : Str} {ts : Addr → Value → Option Addr → TS} {s : Str → Nat → MS} (h : ∀ a ka cls d, cls = .ref (clOf K c) → (∃ b, d = some b) → RM K W (excP ka a d ++ P) k0 (ts a cls d) (s c ka)) : ∀ a x ka cls d, x.cls ∈ [c] → cls = .ref (clOf K x.cls) → XD x d → RM K W (excP ka a d ++ P) k0 (ts a cls d) (wFs s x ka) := fun a x ka cls d hc hcl hx => by
  rcases hx with ⟨h1, rfl⟩ | ⟨fs, b, h1, rfl⟩
  · obtain ⟨cl, fs⟩ := x
    cases h1
    exact fun ρ Γ S G C e B g s o h => h.elim
  · obtain ⟨cl, fs'⟩ := x
    cases h1
    rcases List.mem_cons.1 hc with e | m
    · cases e
      exact h a ka _ _ hcl ⟨b, rfl⟩
    · cases m
/-- e.fld, e the exception in hand -/
def xfM2 (f : Str) (S : Store) (o : Option MCell) : XR := match o with
  | some (.xd fs) => match fs.lookup f with
    | some d => .v (.p d) S
    | none => .bad
  | _ => .bad
def xfM (i ka : Nat) (f : Str) : ME := fun Γ S => match Γ[i]? with
  | some (some (.r k)) => match decide (k = ka) with
    | true => xfM2 f S S[ka + 1]?
    | false => .bad
  | _ => .bad
theorem em_xf {n f : Str} {cls : Value} {ka : Nat} {a Cc : Addr} {dd : Option Addr} (hc : clOf K n = Cc) (hcl : cls = .ref (clOf K n)) (hd : ∃ b, dd = some b) : EM K W (excP ka a dd ++ P) (tXf a cls dd Cc f (tVar i)) (xfM i ka f) := fun ρ Γ S G C g s => by
  subst hc hcl
  obtain ⟨b, rfl⟩ := hd
  unfold xfM
  split
  · rename_i k ek
    split
    · rename_i h
      obtain rfl := of_decide_eq_true h
      unfold xfM2
      split
      · rename_i fs es
        split
        · rename_i d el
          obtain ⟨d0, e0, hv⟩ := g.at_ i _ ek
          obtain ⟨a', ha, rfl⟩ := hv
          have g1 := g.px (k, a) (List.mem_append_left _ List.mem_cons_self)
          have g2 := g.px (k + 1, b) (List.mem_append_left _ (.tail _ List.mem_cons_self))
          rw [ha] at g1
          cases g1
          obtain ⟨a2, c, R, q1, q2, q3, _⟩ := s.get es (by simp)
          rw [q1] at g2
          cases g2
          obtain rfl : c = .xd fs := q2
          refine ⟨d, C, rfl, s, fun σ H F t Q q => ?_⟩
          obtain ⟨v, g3, g4⟩ := t.gam.at_ i _ e0
          obtain rfl := rep_v.1 g4
          obtain ⟨_, o, z1, vs, z2, z3⟩ := t.cel.at_ b _ (q3.symm.subset List.mem_cons_self)
          subst z2
          obtain ⟨w, y1, y2⟩ := repF_get z3 el
          exact ⟨_, g3, rfl, rfl, b, vs, w, rfl, z1, y1, q w H F Post.refl t y2⟩
        · trivial
      · trivial
    · trivial
  · trivial
theorem hvR {a : Addr} : ∀ u, RelV (.ref a) u → u = .ref a := fun _ h => h
theorem hvT {n : String} : ∀ u, RelV (.ty n) u → u = .type n := fun _ h => h
/-- isinstance(e, X), e the exception in hand, with a field -/
def isxF2 (b : Bool) (S : Store) (o : Option MCell) : XR := match o with
  | some (.xd _) => .v (.p (dB b)) S
  | _ => .bad
def isxFM (i ka : Nat) (b : Bool) : ME := fun Γ S => match Γ[i]? with
  | some (some (.r k)) => match decide (k = ka) with
    | true => isxF2 b S S[ka + 1]?
    | false => .bad
  | _ => .bad
theorem em_isxF {n : Str} {cls : Value} {ka : Nat} {a : Addr} {d : Option Addr} {v : V} {w : Value} {b : Bool} (hcl : cls = .ref (clOf K n)) (hd : ∃ b, d = some b) (hC : ExcC K (clOf K n)) (hv : ∀ u, RelV v u → u = w) (hk : PySem.W.kitOne K (.ref (clOf K n)) w = some b) :
    EM K W (excP ka a d ++ P) (tCB (rIsXd K a cls d) (tCons (tVar i) (tCons (tC v) tNil))) (isxFM i ka b) := fun ρ Γ S G C g s => by
  subst hcl
  obtain ⟨dd, rfl⟩ := hd
  unfold isxFM
  split
  · rename_i k ek
    split
    · rename_i h
      obtain rfl := of_decide_eq_true h
      unfold isxF2
      split
      · rename_i fs es
        obtain ⟨d0, e0, hv'⟩ := g.at_ i _ ek
        obtain ⟨a', ha, rfl⟩ := hv'
        have g1 := g.px (k, a) (List.mem_append_left _ List.mem_cons_self)
        have g2 := g.px (k + 1, dd) (List.mem_append_left _ (.tail _ List.mem_cons_self))
        rw [ha] at g1
        cases g1
        obtain ⟨a2, c, R, q1, q2, q3, _⟩ := s.get es (by simp)
        rw [q1] at g2
        cases g2
        obtain rfl : c = .xd fs := q2
        refine ⟨_, C, rfl, s, fun σ H F t Q q => ?_⟩
        obtain ⟨u, g3, g4⟩ := t.gam.at_ i _ e0
        obtain rfl := rep_v.1 g4
        obtain ⟨_, o, z1, vs, z2, z3⟩ := t.cel.at_ dd _ (q3.symm.subset List.mem_cons_self)
        subst z2
        exact ⟨_, g3, clOf K n, dd, vs, rfl, rfl, z1, hC, _, w, b, rfl, hv, hk, q _ H F Post.refl t (rep_v.2 rfl)⟩
      · trivial
    · trivial
  · trivial
/-- without a field: a class of the program, or a built-in one -/
theorem em_isxB {n : Str} {cls : Value} {ka : Nat} {a : Addr} {dd : Option Addr} {v : V} {w : Value} {b : Bool} (hcl : cls = .ref (clOf K n)) (hd : dd = none) (hC : ExcC K (clOf K n)) (hv : ∀ u, RelV v u → u = w) (hk : PySem.W.kitOne K (.ref (clOf K n)) w = some b) :
    EM K W (excP ka a dd ++ P) (tCB (rIsX K a cls dd) (tCons (tVar i) (tCons (tC v) tNil))) (isxM i ka b) := fun ρ Γ S G C g s => by
  subst hcl
  unfold isxM
  split
  · rename_i k ek
    split
    · rename_i h
      obtain rfl := of_decide_eq_true h
      obtain ⟨d0, e0, hv'⟩ := g.at_ i _ ek
      obtain ⟨a', ha, rfl⟩ := hv'
      have := g.px (k, a) (by cases dd <;> exact List.mem_append_left _ List.mem_cons_self)
      rw [ha] at this
      cases this
      refine ⟨_, C, rfl, s, fun σ H F t Q q => ?_⟩
      obtain ⟨u, g1, g2⟩ := t.gam.at_ i _ e0
      obtain rfl := rep_v.1 g2
      exact ⟨_, g1, clOf K n, rfl, hd, hC, _, w, b, rfl, hv, hk, q _ H F Post.refl t (rep_v.2 rfl)⟩
    · trivial
  · trivial
/-- x, y = e, f, where a raise may leave e or f -/
def parX2 (i j : Nat) (Γ : MEnv) (xs : List Val) (S : Store) : Rs := match xs with
  | [x, y] => .nx ((Γ.set i (some x)).set j (some y)) S
  | _ => .bad
def parXM (i j : Nat) (ma mb : ME) : MS := fun Γ S => match argsM [ma, mb] Γ S with
  | .a xs S1 => parX2 i j Γ xs S1
  | .ex e S1 => .ex e Γ S1
  | .bad => .bad
theorem rm_parX {j : Nat} {ta : TA} (h : AM K W P ta [ma, mb]) : RM K W P k0 (tPar i j ta) (parXM i j ma mb) := fun ρ Γ S G C e B g s o hr => by
  have h0 := h ρ Γ S G C g s
  unfold parXM at hr
  revert h0 hr
  cases argsM [ma, mb] Γ S with
  | a xs S1 =>
    intro hr ⟨ds, C1, h1, h2, h3⟩ σ H D ⟨F, q⟩ E
    unfold parX2 at hr
    dsimp only at hr
    split at hr
    · rename_i x y
      cases h1 with
      | cons v1 t =>
        cases t with
        | cons v2 t =>
          cases t
          refine h3 σ H F q.sa _ fun vs H1 F1 p1 s1 r1 => ?_
          obtain ⟨v, vs', rfl, r2, r3⟩ := reps_cons.1 r1
          obtain ⟨w, vs'', rfl, r4, r5⟩ := reps_cons.1 r3
          obtain rfl := reps_nil.1 r5
          exact ⟨v, w, rfl, E.nx _ _ _ _ (hr ρ _ C1 (preR ρ) o ((g.set v1).set v2) h2) ⟨F1, q.step p1 ⟨s1.le, (s1.gam.set r2).set r4, s1.cel⟩⟩⟩
    · exact hr.elim
  | ex e' S1 =>
    intro hr ⟨C1, h2, h3⟩ σ H D ⟨F, q⟩ E
    exact h3 σ H F q.sa _ fun dd C2 H1 F1 z1 p1 s1 => E.xc _ _ _ _ _ _ _ _ (hr ρ _ _ (preR ρ) o g h2) (z1.np q.po) (q.step p1 s1)
  | bad => exact fun hr => hr.elim
/-- d.clear() -/
def dClrP (_ : List (Key × Dat)) : List Dat → Option (Dat × List (Key × Dat))
  | [] => some (dN, [])
  | _ => none
theorem mt_dclr : MtD K rDClear dClrP := fun ds es d ds' h a us vs H F l hH r1 r2 => by
  unfold dClrP at h
  split at h
  · cases h
    obtain rfl := reps_nil.1 r2
    exact ⟨[], .non, repK_nil.2 rfl, rep_v.2 rfl, fun Q q => ⟨a, us, rfl, rfl, hH, q⟩⟩
  · cases h
end
end Mr
end

section
set_option maxRecDepth 100000
set_option maxHeartbeats 4000000
/-! Fx3: several except clauses, each with a name or without. -/
namespace L2
open PySem PySem.Spec PyProof.Rows
abbrev Clause := Value × Option Nat × (Addr → Value → Option Addr → TS)
/-- what the clauses wish, the first one first -/
def wMix (K : PySem.W.Frag) (Wo : WX) (D : Ends) : List Clause → WX
  | [] => Wo
  | (c, none, ts) :: r => wOnly K c ts (wMix K Wo D r) D
  | (c, some i, ts) :: r => wAs K c i ts (wMix K Wo D r) D
inductive Clauses (X : Cx) : List ExceptHandler → List Clause → Prop
  | nil : Clauses X [] []
  | only {x : Str} {c : Value} {ts : Addr → Value → Option Addr → TS} {b0 : Stmt} {su : List Stmt} {p1 p2 : Pos} {hs : List ExceptHandler} {l : List Clause} (nm : Names X x c)
      (ok : ∀ (u : Addr) (ou : Obj) (cls : Value) (d : Option Addr) (pn : List (Addr × Obj)), Zc cls d ou → (∃ vs, ou.data = .fields vs) → PSs (X.suite u ((u, ou) :: pn)) (b0 :: su) (ts u cls d)) (r : Clauses X hs l) :
      Clauses X (.ExceptHandler (some (.Name x p1)) none (b0 :: su) p2 :: hs) ((c, none, ts) :: l)
  | named {x n : Str} {c : Value} {i : Nat} {ts : Addr → Value → Option Addr → TS} {b0 : Stmt} {su : List Stmt} {p1 p2 : Pos} {hs : List ExceptHandler} {l : List Clause} (nm : Names X x c) (hi : X.N[i]? = some n) (hl : X.env.kindOf n = some .local)
      (ok : ∀ (u : Addr) (ou : Obj) (cls : Value) (d : Option Addr) (pn : List (Addr × Obj)), Zc cls d ou → (∃ vs, ou.data = .fields vs) → PSs (X.suite u ((u, ou) :: pn)) (b0 :: su) (ts u cls d)) (r : Clauses X hs l) :
      Clauses X (.ExceptHandler (some (.Name x p1)) (some n) (b0 :: su) p2 :: hs) ((c, some i, ts) :: l)
section
variable {X : Cx} {body : List Stmt} {h0 : ExceptHandler} {hs : List ExceptHandler} {l : List Clause} {pos : Pos} {tb : WX → TS} {Wo : WX}
theorem ps_try_mix (st : X.stack = X.env :: X.outer) (fr : X.env.frame = some X.env.locals) (nd : X.N.Nodup) (tk : Takes X Wo)
    (hb : ∀ (W : WX) (pl : List (Addr × Obj)) (xe : Value → Shared → Prop), Takes (X.tr pl xe) W → PassesOwn (model X.prog X.w) X.A X.env xe → PSs (X.tr pl xe) body (tb W)) (hc : Clauses X (h0 :: hs) l) : PS X (.Try body (h0 :: hs) [] [] pos) (fun D σ H => tb (wMix X.K Wo D l) D σ H) := by
  refine ⟨fun pins s σ H D I h => ?_⟩; have ok := I.ok
  have frs0 : X.A.frames = some (X.env :: X.outer) := by rw [ok.frames, st]
  refine wpAny_Try_except ?_
  refine wpAny_mono ((hb (wMix X.K Wo D l) (X.pn ++ pins) (fun e s1 => wpAny (model X.prog X.w) X.A (noteFrame e X.env) (fun _ s2 => wpAny (model X.prog X.w) X.A (setFlight e none) (fun _ s3 => wpAny (model X.prog X.w) X.A (handleBy e X.env (h0 :: hs)) (SP X pins D) X.xe s3) X.xe s2) X.xe s1)
    (fun e0 s0 xx => ?_) PassesOwn.looking).run [] s σ H D (I.toTry _) h) (fun f s1 fin => ?_) (fun e s1 he => he)
  · obtain ⟨u, Bs, sJ, pins1, σ1, H1, cls, d, rfl, J1, nb, up, sky, nu, eo, ag, w⟩ := xx
    have J : Inv X pins σ1 H1 sJ := J1.ofTry ok
    have sky1 : Sky Bs (X.env :: X.outer) u (Zc cls d) X.env.locals s0.heap := by rw [← st]; exact sky
    show wpAny (model X.prog X.w) X.A (noteFrame (.ref u) X.env) _ _ _
    refine Sky.land Zc.steady frs0 fr sky1 fun g3 fl up3 => ?_
    have J3 : Inv X pins σ1 H1 { s0 with heap := g3 } := J.landed nb fl.1 (up.trans up3) eo ag
    obtain ⟨o3, v3, gu, zu, du⟩ := fl.there
    have far : u ∉ frs (X.env :: X.outer) := fun hm => by
      obtain ⟨_, o', e', hn⟩ := fl.2.2.1.mem hm
      rw [gu] at e'
      cases e'
      exact hn _ du
    have nL : u ≠ X.env.locals := fun z => far (List.mem_filterMap.mpr ⟨X.env, List.mem_cons_self, by rw [fr, z]⟩)
    have nF : u ∉ X.fs := fun hm => by
      obtain ⟨e, he, q⟩ := List.mem_filterMap.1 hm
      exact far (List.mem_filterMap.mpr ⟨e, List.mem_cons_of_mem _ he, q⟩)
    have S3 := J3.suite gu du nu nL nF
    have lt : PySem.W.Looks (model X.prog X.w) g3 (typeOf (.ref u)) cls := fun A Q E s k q => wpAny_typeOf_ref (k _ _ gu) (by rw [zu.1]; exact q)
    have test : ∀ {x : Str} {c : Value} {p1 : Pos} {Q : Value → Shared → Prop} {E : Value → Shared → Prop}, Names X x c → Q c { s0 with heap := g3 } → wpAny (model X.prog X.w) (X.A.mark (some (.ref u))) (eval (.Name x p1) X.env) Q E { s0 with heap := g3 } := fun {x c p1 Q E} nm q => by
      obtain ⟨hg, hdb, hm | ⟨hm, hv, hnn⟩⟩ := nm
      · exact ld_glob (X := X.suite u ((u, o3) :: (X.pn ++ pins))) S3 hg hm q hdb
      · exact ld_blt (X := X.suite u ((u, o3) :: (X.pn ++ pins))) S3 hg hm hv q hnn hdb
    have go : ∀ {hs1 : List ExceptHandler} {l1 : List Clause}, Clauses X hs1 l1 → wMix X.K Wo D l1 cls d σ1 H1 → wpAny (model X.prog X.w) X.A (handleBy (.ref u) X.env hs1) (SP X pins D) X.xe { s0 with heap := g3 } := by
      intro hs1 l1 hk
      induction hk with
      | nil =>
        intro w
        refine wpAny_handleBy_nil ?_
        obtain ⟨k1, k2, k3, oe, vs, Tr, oT, ts', he, hz, hd, h1, hr⟩ := id fl
        unfold PySem.passOn
        refine wpAny_bind (wpAny_field he hd h1 ?_); rw [if_neg (show ¬ ((Value.ref Tr == Value.none) = true) from by simp)]
        have out : wpAny (model X.prog X.w) X.A (setFlight (.ref u) X.env.frame) (fun _ s4 => wpAny (model X.prog X.w) X.A (throw (.ref u) : Sem Flow) (SP X pins D) X.xe s4) X.xe { s0 with heap := g3 } := by
          rw [fr]
          refine HandSPX.setFlight_upZ fl fun g4 hh4 up4 => wpAny_throw (tk _ _ ?_)
          exact ⟨u, Bs, sJ, pins, σ1, H1, cls, d, rfl, J, nb, (up.trans up3).trans up4, .inr (.inr (by rw [st]; exact hh4)), nu, eo, ag, w⟩
        first
          | exact wpAny_bind (wpAny_pure (wpAny_bind out))
          | exact wpAny_bind out
      | only nm okS r ih =>
        intro w
        obtain ⟨b, hb1, yes, no⟩ := w
        refine wpAny_handleBy_cons (codeAny_handlers_test ?_) (by intro q; cases q); refine test nm ((PySem.W.exm_one (M := model X.prog X.w) J3.kIn lt hb1).here ?_)
        cases b with
        | true =>
          refine codeAny_handlers_suite ?_; refine HandSPX.lands_againZ fl fun g4 fl4 up4 => ?_
          have J4 : Inv X pins σ1 H1 { s0 with heap := g4 } := J.landed nb fl4.1 ((up.trans up3).trans up4) eo ag
          obtain ⟨o4, v4, gu4, zu4, du4⟩ := fl4.there
          have S4 := J4.suite gu4 du4 nu nL nF
          refine wpAny_mono ((okS u o4 cls d (X.pn ++ pins) zu4 ⟨_, du4⟩).run [] _ _ H1 _ S4 (yes rfl u nu)) (fun f s6 fin => ?_) (fun _ _ z => False.elim z)
          cases f with
          | ret v =>
            obtain ⟨v6, σ6, H6, S6, r6, q6⟩ := fin; exact ⟨_, _, _, S6.unsuite ok, r6, q6⟩
          | _ =>
            obtain ⟨σ6, H6, S6, q6⟩ := fin; exact ⟨_, _, S6.unsuite ok, q6⟩
        | false => exact ih (no rfl)
      | @named x n c i ts b0 su p1 p2 hs2 l2 nm hi hln okS r ih =>
        intro w
        obtain ⟨b, hb1, yes, no⟩ := w
        refine wpAny_handleBy_cons (codeAny_handlers_test ?_) (by intro q; cases q); refine test nm ((PySem.W.exm_one (M := model X.prog X.w) J3.kIn lt hb1).here ?_)
        cases b with
        | true =>
          refine codeAny_handlers_suite_as ?_; refine HandSPX.lands_againZ fl fun g4 fl4 up4 => ?_
          have J4 : Inv X pins σ1 H1 { s0 with heap := g4 } := J.landed nb fl4.1 ((up.trans up3).trans up4) eo ag
          obtain ⟨o4, v4, gu4, zu4, du4⟩ := fl4.there
          have S4 := J4.suite gu4 du4 nu nL nF
          refine store_ok (X := X.suite u ((u, o4) :: (X.pn ++ pins))) (v := .ref u) S4 nd hi (.inl hln) rfl (fun s5 S5 => ?_) (.inr hln)
          refine wpAny_mono ((okS u o4 cls d (X.pn ++ pins) zu4 ⟨_, du4⟩).run [] s5 _ H1 _ S5 (yes rfl u nu)) (fun f s6 fin => ?_) (fun _ _ z => False.elim z)
          have drop : ∀ {σ6 : St} {H6 : Hp} {Q : Shared → Prop}, Inv (X.suite u ((u, o4) :: (X.pn ++ pins))) [] σ6 H6 s6 → (∀ s7, Inv X pins (σ6.set i none) H6 s7 → Q s7) → wpAny (model X.prog X.w) X.A (do bindName X.env n .none; unbindBehindTheSuite X.env n p2) (fun _ s7 => Q s7) X.xe s6 :=
            fun {σ6 H6 Q} S6 hq => gone_ok (S6.unsuite ok) nd hi hln hq
          cases f with
          | ret v =>
            obtain ⟨v6, σ6, H6, S6, r6, q6⟩ := fin
            exact drop S6 fun s7 J7 => ⟨_, _, _, J7, r6, q6⟩
          | _ =>
            obtain ⟨σ6, H6, S6, q6⟩ := fin
            exact drop S6 fun s7 J7 => ⟨_, _, J7, q6⟩
        | false => exact ih (no rfl)
    exact go hc w
  · cases f with
    | next =>
      obtain ⟨σ', H', J', q⟩ := fin; exact wpAny_execs_nil ⟨σ', H', J'.ofTry ok, q⟩
    | ret v =>
      obtain ⟨v', σ', H', J', r, q⟩ := fin
      exact ⟨v', σ', H', J'.ofTry ok, r, q⟩
    | _ =>
      obtain ⟨σ', H', J', q⟩ := fin; exact ⟨σ', H', J'.ofTry ok, q⟩
end
end L2
end

section
set_option maxRecDepth 100000
set_option maxHeartbeats 4000000
/-! Mr13: the mirror of several except clauses. -/
namespace Mr
open PySem L2 Dm PySem.Spec PyProof.Rows
section
variable {K : PySem.W.Frag} {W : WX} {P : List (Nat × Addr)} {ρ ρ' : List Addr} {Γ Γ' : MEnv} {S S1 T : Store} {G : Gam} {C C0 C1 C2 R : Cells} {k0 : Nat}
def tTryMix (K : PySem.W.Frag) (l : List Clause) (Wo : WX) (tb : WX → TS) : TS := fun D σ H => tb (wMix K Wo D l) D σ H
/-- the body's end with the clauses' promises behind it -/
def xcMix (K : PySem.W.Frag) (W : WX) (e : Ent) (B : Bd) : List Clause → Exn → Gam → Cells → Prop
  | [], x, G, C => B.xc x G C
  | (c, none, ts) :: r, x, G, C => ∃ b, PySem.W.exmOne K (.ref (clOf K x.cls)) c = some b ∧ (b = true → ∀ a d C2, a ∉ e.I → XSat (fun b => b ∉ e.I) x C d C2 → Run K W (ts a (.ref (clOf K x.cls)) d) e G C2 B) ∧ (b = false → xcMix K W e B r x G C)
  | (c, some i, ts) :: r, x, G, C => ∃ b, PySem.W.exmOne K (.ref (clOf K x.cls)) c = some b ∧ (b = true → ∀ a d C2, a ∉ e.I → XSat (fun b => b ∉ e.I) x C d C2 → Run K W (ts a (.ref (clOf K x.cls)) d) e (G.set i (some (dR a))) C2
      { B with nx := fun Γ2 C2 => B.nx (Γ2.set i none) C2, bk := fun Γ2 C2 => B.bk (Γ2.set i none) C2, ct := fun Γ2 C2 => B.ct (Γ2.set i none) C2, xc := fun x Γ2 C2 => B.xc x Γ2 C2 }) ∧ (b = false → xcMix K W e B r x G C)
theorem mix_go {e : Ent} {B : Bd} {D : L2.Ends} (E : EndsOk K e B D W) {x : Exn} {G1 : Gam} {C1 C2 : Cells} {σ : L2.St} {H F : Hp} {d : Option Addr} (z : XSat (fun a => ¬ e.P a) x C1 d C2) (q : AtF K e G1 C2 σ H F) : ∀ {l : List Clause}, xcMix K W e B l x G1 C1 → wMix K W D l (.ref (clOf K x.cls)) d σ H
  | [], h => E.xc _ _ _ _ _ _ _ _ h z q
  | (c, none, ts) :: r, ⟨b, h1, h2, h3⟩ => ⟨b, h1, fun hb a ha => h2 hb a d C2 (fun m => noP q.po ha (e.hI a m)) (z.imp fun b hn m => hn (e.hI b m)) _ _ _ ⟨F, q⟩ E, fun hb => mix_go E z q (h3 hb)⟩
  | (c, some i, ts) :: r, ⟨b, h1, h2, h3⟩ => ⟨b, h1, fun hb a ha => by
      refine h2 hb a d C2 (fun m => noP q.po ha (e.hI a m)) (z.imp fun b hn m => hn (e.hI b m)) _ _ _ ⟨F, q.po, ⟨q.sa.le, q.sa.gam.set (rep_v.2 rfl), q.sa.cel⟩, q.ci⟩ ⟨fun Γ C σ H z q => E.nx _ _ _ _ z ?_, E.rt, E.rn, fun Γ C σ H z q => E.bk _ _ _ _ z ?_, fun Γ C σ H z q => E.ct _ _ _ _ z ?_, E.xc⟩
      all_goals
        obtain ⟨F, q⟩ := q
        exact ⟨F, q.po, ⟨q.sa.le, q.sa.gam.setN, q.sa.cel⟩, q.ci⟩, fun hb => mix_go E z q (h3 hb)⟩
theorem r_tryMix {e : Ent} {B : Bd} {l : List Clause} {tb : WX → TS} (h : ∀ W', Run K W' (tb W') e G C { B with xc := xcMix K W e B l }) : Run K W (tTryMix K l W tb) e G C B := fun σ H D q E =>
  h _ σ H D q ⟨E.nx, E.rt, E.rn, E.bk, E.ct, fun x Γ' C' σ' d C'' H' F' hx z q' => mix_go E z q' hx⟩
structure MCl where
  cs : List Str
  no : List Str
  sl : Option Nat
  su : Exn → Nat → MS
def hdlM : List MCl → Exn → MS
  | [], x => fun Γ S => .ex x Γ S
  | m :: r, x => fun Γ S => match decide (x.cls ∈ m.cs) with
    | true => match m.sl with
      | some i => (m.su x S.length (Γ.set i (some (.r S.length))) (S ++ excS x)).drop i
      | none => m.su x S.length Γ (S ++ excS x)
    | false => match decide (x.cls ∈ m.no) with
      | true => hdlM r x Γ S
      | false => .bad
def tryMix (l : List MCl) (body : MS) : MS := fun Γ S => match body Γ S with
  | .ex x Γ1 S1 => hdlM l x Γ1 S1
  | r => r
inductive MixOk (K : PySem.W.Frag) (W : WX) (P : List (Nat × Addr)) (k0 : Nat) : List Clause → List MCl → Prop
  | nil : MixOk K W P k0 [] []
  | only {c : Value} {ts : Addr → Value → Option Addr → TS} {cs no : List Str} {su : Exn → Nat → MS} {l : List Clause} {m : List MCl} (hcs : ∀ n ∈ cs, PySem.W.exmOne K (.ref (clOf K n)) c = some true) (hno : ∀ n ∈ no, PySem.W.exmOne K (.ref (clOf K n)) c = some false)
      (hs : ∀ a x ka cls d, RM K W P k0 (ts a cls d) (su x ka)) (r : MixOk K W P k0 l m) : MixOk K W P k0 ((c, none, ts) :: l) (⟨cs, no, none, su⟩ :: m)
  | named {c : Value} {i : Nat} {ts : Addr → Value → Option Addr → TS} {cs no : List Str} {su : Exn → Nat → MS} {l : List Clause} {m : List MCl} (hcs : ∀ n ∈ cs, PySem.W.exmOne K (.ref (clOf K n)) c = some true) (hno : ∀ n ∈ no, PySem.W.exmOne K (.ref (clOf K n)) c = some false)
      (hs : ∀ a x ka cls d, x.cls ∈ cs → cls = .ref (clOf K x.cls) → XD x d → RM K W (excP ka a d ++ P) k0 (ts a cls d) (su x ka)) (r : MixOk K W P k0 l m) : MixOk K W P k0 ((c, some i, ts) :: l) (⟨cs, no, some i, su⟩ :: m)
theorem mix_hdl {l : List Clause} {m : List MCl} (hk : MixOk K W P k0 l m) {e : Ent} {B : Bd} {x : Exn} {Γ1 : MEnv} {S1 : Store} {ρ1 : List Addr} {G1 : Gam} {C1 : Cells} (hr : RsOk P k0 e.I B ρ (hdlM m x Γ1 S1)) (p : ρ <+: ρ1) (o : OKr k0 ρ1 e.I) (g : GR P ρ1 Γ1 G1) (s : SR ρ1 S1 C1) : xcMix K W e B l x G1 C1 := by
  induction hk with
  | nil => exact hr ρ1 G1 C1 p o g s
  | only hcs hno hs r ih =>
    unfold hdlM at hr
    split at hr
    · rename_i hc
      refine ⟨true, hcs _ (of_decide_eq_true hc), fun _ a d C2 ha z => ?_, fun q => by cases q⟩
      have pre : ρ1 <+: ρ1 ++ (a :: d.toList) := List.prefix_append _ _
      exact hs a x S1.length _ d (ρ1 ++ (a :: d.toList)) Γ1 (S1 ++ excS x) _ C2 e _ ((g.excO (a := a) (dd := d) (SRlen s)).sub) (s.exc z) (o.exc ha z) (hr.mono (p.trans pre))
    · split at hr
      · rename_i hn
        exact ⟨false, hno _ (of_decide_eq_true hn), (fun q => by cases q), fun _ => ih hr⟩
      · exact hr.elim
  | named hcs hno hs r ih =>
    unfold hdlM at hr
    split at hr
    · rename_i hc
      refine ⟨true, hcs _ (of_decide_eq_true hc), fun _ a d C2 ha z => ?_, fun q => by cases q⟩
      have pre : ρ1 <+: ρ1 ++ (a :: d.toList) := List.prefix_append _ _
      exact hs a x S1.length _ d (of_decide_eq_true hc) rfl (xsat_xd z) (ρ1 ++ (a :: d.toList)) _ (S1 ++ excS x) _ C2 e _ (g.exc (SRlen s)) (s.exc z) (o.exc ha z) (hr.mono (p.trans pre)).drop
    · split at hr
      · rename_i hn
        exact ⟨false, hno _ (of_decide_eq_true hn), (fun q => by cases q), fun _ => ih hr⟩
      · exact hr.elim
theorem rm_tryMix {l : List Clause} {m : List MCl} {tb : WX → TS} {body : MS} (hb : ∀ W', RM K W' P k0 (tb W') body) (hk : MixOk K W P k0 l m) : RM K W P k0 (tTryMix K l W tb) (tryMix m body) := fun ρ Γ S G C e B g s o hr => by
  refine r_tryMix fun W' => hb W' ρ Γ S G C e _ g s o ?_
  unfold tryMix at hr
  revert hr
  cases body Γ S with
  | nx Γ1 S1 => exact id
  | bk Γ1 S1 => exact id
  | ct Γ1 S1 => exact id
  | rt x S1 => cases x <;> exact id
  | rn c S1 => exact id
  | bad => exact id
  | ex x Γ1 S1 => exact fun hr ρ' G' C' p o' g' s' => mix_hdl hk hr p o' g' s'
theorem exmC {n : Str} {l : List Str} {cv : Value} {b : Bool} (h : PySem.W.exmOne K (.ref (clOf K n)) cv = some b) (r : ∀ m ∈ l, PySem.W.exmOne K (.ref (clOf K m)) cv = some b) : ∀ m ∈ n :: l, PySem.W.exmOne K (.ref (clOf K m)) cv = some b := List.forall_mem_cons.2 ⟨h, r⟩
end
section
variable {X : Cx} {body : List Stmt} {h0 : ExceptHandler} {hs : List ExceptHandler} {l : List Clause} {pos : Pos} {tb : WX → TS} {Wo : WX}
theorem ps_tryMix (st : X.stack = X.env :: X.outer) (fr : X.env.frame = some X.env.locals) (nd : X.N.Nodup) (tk : Takes X Wo)
    (hb : ∀ (W : WX) (pl : List (Addr × Obj)) (xe : Value → Shared → Prop), Takes (X.tr pl xe) W → PassesOwn (model X.prog X.w) X.A X.env xe → PSs (X.tr pl xe) body (tb W)) (hc : Clauses X (h0 :: hs) l) : PS X (.Try body (h0 :: hs) [] [] pos) (tTryMix X.K l Wo tb) := ps_try_mix st fr nd tk hb hc
end
end Mr
end

section
set_option maxRecDepth 100000
set_option maxHeartbeats 4000000
/-! Mx1: how mirrors are evaluated: rules for simp. -/
namespace Mr
open PySem L2 Dm

/-! ### results -/
section
variable {x y : Val} {S S1 : Store} {Γ : MEnv} {d e : Dat} {ds es : List Dat} {kvs : List (Key × Dat)} {c : MCell} {k : Val → Store → XR} {ex : Exn} {f : List Dat → PR} {n : Str} {fs : List (Str × Val)}
@[simp] theorem get_v : (XR.v x S).get k = k x S := rfl
@[simp] theorem get_lst : (XR.n (.lst ds) S).get k = k (.p (.lst ds)) S := rfl
@[simp] theorem get_dK : (XR.n (.dK kvs) S).get k = k (.p (.dK kvs)) S := rfl
@[simp] theorem get_ex : (XR.ex ex S).get k = .ex ex S := rfl
@[simp] theorem get_bad : XR.bad.get k = .bad := rfl
def getO (k : Val → Store → XR) (S : Store) : Option Dat → XR
  | some d => k (.p d) S
  | none => .bad
@[simp] theorem getO_some : getO k S (some d) = k (.p d) S := rfl
@[simp] theorem get_ins : (XR.n (.ins n fs) S).get k = getO k S (frz (.ins n fs)) := by
  show (match frz (.ins n fs) with | some d => k (.p d) S | none => .bad) = _
  cases frz (.ins n fs) <;> rfl
def insO (n : Str) : Option (List (Str × Dat)) → Option Dat
  | some gs => some (.ins n gs)
  | none => none
@[simp] theorem insO_some {gs : List (Str × Dat)} : insO n (some gs) = some (.ins n gs) := rfl
@[simp] theorem frz_ins : frz (.ins n fs) = insO n (pureFs fs) := by
  show (match pureFs fs with | some gs => some (Dat.ins n gs) | none => none) = _
  cases pureFs fs <;> rfl
@[simp] theorem frz_lst : frz (.lst ds) = some (.lst ds) := rfl
@[simp] theorem frz_dK : frz (.dK kvs) = some (.dK kvs) := rfl
@[simp] theorem pureFs_nil : pureFs [] = some [] := rfl
def consO (f : Str) (d : Dat) : Option (List (Str × Dat)) → Option (List (Str × Dat))
  | some gs => some ((f, d) :: gs)
  | none => none
@[simp] theorem consO_some {f : Str} {gs : List (Str × Dat)} : consO f d (some gs) = some ((f, d) :: gs) := rfl
@[simp] theorem pureFs_cons {f : Str} : pureFs ((f, .p d) :: fs) = consO f d (pureFs fs) := by
  show (match pureFs fs with | some gs => some ((f, d) :: gs) | none => none) = _
  cases pureFs fs <;> rfl
@[simp] theorem rdS_p : rdS S (.p d) = some d := rfl
def rdO : Option MCell → Option Dat
  | some m => frz m
  | none => none
@[simp] theorem rdO_some : rdO (some c) = frz c := rfl
@[simp] theorem rdS_r {i : Nat} : rdS S (.r i) = rdO S[i]? := by
  show (match S[i]? with | some m => frz m | none => none) = _
  cases S[i]? <;> rfl
@[simp] theorem rdSs_nil : rdSs S [] = some [] := rfl
@[simp] theorem rdSs_p {xs : List Val} : rdSs S (.p d :: xs) = (rdSs S xs).map (d :: ·) := by
  show (match rdSs S xs with | some ds => some (d :: ds) | none => none) = _
  cases rdSs S xs <;> rfl
def rdsR (xs : Option (List Dat)) : Option Dat → Option (List Dat)
  | some d => xs.map (d :: ·)
  | none => none
@[simp] theorem rdsR_some {xs : Option (List Dat)} : rdsR xs (some d) = xs.map (d :: ·) := rfl
@[simp] theorem rdSs_r {i : Nat} {xs : List Val} : rdSs S (.r i :: xs) = rdsR (rdSs S xs) (rdS S (.r i)) := by
  show (match rdS S (.r i) with | some d => (match rdSs S xs with | some ds => some (d :: ds) | none => none) | none => none) = _
  cases rdS S (.r i) with
  | none => rfl
  | some d => cases rdSs S xs <;> rfl
@[simp] theorem out_d : (PR.d d).out S = .v (.p d) S := rfl
@[simp] theorem out_n : (PR.n c).out S = .n c S := rfl
@[simp] theorem out_no : PR.no.out S = .bad := rfl
@[simp] theorem pure_p : (XR.v (.p d) S).pure = .d d S := rfl
@[simp] theorem pure_lst : (XR.n (.lst ds) S).pure = .d (.lst ds) S := rfl
@[simp] theorem pure_dK : (XR.n (.dK kvs) S).pure = .d (.dK kvs) S := rfl
def pureO (S : Store) : Option Dat → PX
  | some d => .d d S
  | none => .bad
@[simp] theorem pureO_some : pureO S (some d) = .d d S := rfl
@[simp] theorem pure_ins : (XR.n (.ins n fs) S).pure = pureO S (frz (.ins n fs)) := by
  show (match frz (.ins n fs) with | some d => PX.d d S | none => .bad) = _
  cases frz (.ins n fs) <;> rfl
def pureR (S : Store) (i : Nat) : Option MCell → PX
  | some m => pureO (S.set i .gone) (frz m)
  | none => .bad
@[simp] theorem pureR_some {i : Nat} : pureR S i (some c) = pureO (S.set i .gone) (frz c) := rfl
@[simp] theorem pure_r {i : Nat} : (XR.v (.r i) S).pure = pureR S i S[i]? := by
  show (match S[i]? with | some m => (match frz m with | some d => PX.d d (S.set i .gone) | none => .bad) | none => .bad) = _
  cases S[i]? with
  | none => rfl
  | some m => show (match frz m with | some d => PX.d d (S.set i .gone) | none => .bad) = pureO _ _; cases frz m <;> rfl
@[simp] theorem pure_ex : (XR.ex ex S).pure = .ex ex S := rfl
@[simp] theorem val_v : (XR.v x S).val = .v x S := rfl
@[simp] theorem val_lst : (XR.n (.lst ds) S).val = .v (.p (.lst ds)) S := rfl
@[simp] theorem val_dK : (XR.n (.dK kvs) S).val = .v (.p (.dK kvs)) S := rfl
def valO (S : Store) : Option Dat → GX
  | some d => .v (.p d) S
  | none => .bad
@[simp] theorem valO_some : valO S (some d) = .v (.p d) S := rfl
@[simp] theorem val_ins : (XR.n (.ins n fs) S).val = valO S (frz (.ins n fs)) := by
  show (match frz (.ins n fs) with | some d => GX.v (.p d) S | none => .bad) = _
  cases frz (.ins n fs) <;> rfl
@[simp] theorem val_ex : (XR.ex ex S).val = .ex ex S := rfl
@[simp] theorem al_v {b : Bool} : (XR.v x S).al b = .v x S := rfl
@[simp] theorem al_t : (XR.n c S).al true = .v (.r S.length) (S ++ [c]) := rfl
@[simp] theorem al_f : (XR.n c S).al false = valO S (frz c) := by
  show (match frz c with | some d => GX.v (.p d) S | none => .bad) = _
  cases frz c <;> rfl
end

/-! ### expressions -/
section
variable {x y : Val} {S S1 : Store} {Γ : MEnv} {d e : Dat} {ds es : List Dat} {f : List Dat → PR} {m ma mb mc mo : ME} {ms : List ME} {n cn : Str} {b : Bool} {mt nt : MT} {ex : Exn} {g : DM}
def varO (S : Store) : Option (Option Val) → XR
  | some (some x) => .v x S
  | _ => .bad
@[simp] theorem varO_some : varO S (some (some x)) = .v x S := rfl
@[simp] theorem varM_app {i : Nat} : varM i Γ S = varO S Γ[i]? := by
  unfold varM varO
  rfl
@[simp] theorem conM_app {u : V} : conM u Γ S = .v (.p (.v u)) S := rfl
@[simp] theorem glbM_app : glbM n Γ S = .v (.p (.glb n)) S := rfl
def opF (f : List Dat → PR) (S : Store) : Option Dat → Option Dat → XR
  | some d, some e => (f [d, e]).out S
  | _, _ => .bad
def opK2 (f : List Dat → PR) (x y : Val) (S : Store) : XR := opF f S (rdS S x) (rdS S y)
def opK1 (f : List Dat → PR) (mb : ME) (Γ : MEnv) (x : Val) (S : Store) : XR := (mb Γ S).get (opK2 f x)
@[simp] theorem opF_some : opF f S (some d) (some e) = (f [d, e]).out S := rfl
@[simp] theorem opK2_app : opK2 f x y S = opF f S (rdS S x) (rdS S y) := rfl
@[simp] theorem opK1_app : opK1 f mb Γ x S = (mb Γ S).get (opK2 f x) := rfl
@[simp] theorem opM_app : opM f ma mb Γ S = (ma Γ S).get (opK1 f mb Γ) := rfl
def unF (f : List Dat → PR) (S : Store) : Option Dat → XR
  | some d => (f [d]).out S
  | none => .bad
def unK (f : List Dat → PR) (x : Val) (S : Store) : XR := unF f S (rdS S x)
@[simp] theorem unF_some : unF f S (some d) = (f [d]).out S := rfl
@[simp] theorem unK_app : unK f x S = unF f S (rdS S x) := rfl
@[simp] theorem unM_app : unM f ma Γ S = (ma Γ S).get (unK f) := rfl
/-! arguments -/
def arC (x : Val) : AR → AR
  | .a xs S => .a (x :: xs) S
  | r => r
@[simp] theorem arC_a {xs : List Val} : arC x (.a xs S) = .a (x :: xs) S := rfl
@[simp] theorem arC_ex : arC x (.ex ex S) = .ex ex S := rfl
def arK (ms : List ME) (Γ : MEnv) : GX → AR
  | .v x S => arC x (argsM ms Γ S)
  | .ex e S => .ex e S
  | .bad => .bad
@[simp] theorem arK_v : arK ms Γ (.v x S) = arC x (argsM ms Γ S) := rfl
@[simp] theorem arK_ex : arK ms Γ (.ex ex S) = .ex ex S := rfl
@[simp] theorem argsM_nil : argsM [] Γ S = .a [] S := rfl
@[simp] theorem argsM_cons : argsM (m :: ms) Γ S = arK ms Γ (m Γ S).val := by
  show (match m Γ S with | .v x S1 => _ | .n c S1 => _ | .ex e S1 => _ | .bad => _) = _
  cases m Γ S with
  | v x S1 => show (match argsM ms Γ S1 with | .a xs S2 => AR.a (x :: xs) S2 | .ex e S2 => .ex e S2 | .bad => .bad) = arC x (argsM ms Γ S1); cases argsM ms Γ S1 <;> rfl
  | n c S1 =>
    show (match frz c with | some d => (match argsM ms Γ S1 with | .a xs S2 => AR.a (.p d :: xs) S2 | .ex e S2 => .ex e S2 | .bad => .bad) | none => .bad) = arK ms Γ (match frz c with | some d => .v (.p d) S1 | none => .bad)
    cases frz c with
    | none => rfl
    | some d => show _ = arC (.p d) (argsM ms Γ S1); cases argsM ms Γ S1 <;> rfl
  | ex e S1 => rfl
  | bad => rfl
def apC (d : Dat) : AP → AP
  | .ok ds S => .ok (d :: ds) S
  | r => r
@[simp] theorem apC_ok : apC d (.ok ds S) = .ok (d :: ds) S := rfl
def apK (ms : List ME) (Γ : MEnv) : PX → AP
  | .d d S => apC d (argsP ms Γ S)
  | .ex e S => .ex e S
  | .bad => .bad
@[simp] theorem apK_d : apK ms Γ (.d d S) = apC d (argsP ms Γ S) := rfl
@[simp] theorem argsP_nil : argsP [] Γ S = .ok [] S := rfl
@[simp] theorem argsP_cons : argsP (m :: ms) Γ S = apK ms Γ (m Γ S).pure := by
  show (match (m Γ S).pure with | .d d S1 => (match argsP ms Γ S1 with | .ok ds S2 => AP.ok (d :: ds) S2 | r => r) | .ex e S1 => .ex e S1 | .bad => .bad) = _
  cases (m Γ S).pure with
  | d d S1 => show (match argsP ms Γ S1 with | .ok ds S2 => AP.ok (d :: ds) S2 | r => r) = apC d (argsP ms Γ S1); cases argsP ms Γ S1 <;> rfl
  | ex e S1 => rfl
  | bad => rfl
def cbF (f : List Dat → PR) (S : Store) : Option (List Dat) → XR
  | some ds => (f ds).out S
  | none => .bad
@[simp] theorem cbF_some : cbF f S (some ds) = (f ds).out S := rfl
def cbK (f : List Dat → PR) : AR → XR
  | .a xs S => cbF f S (rdSs S xs)
  | .ex e S => .ex e S
  | .bad => .bad
@[simp] theorem cbK_a {xs : List Val} : cbK f (.a xs S) = cbF f S (rdSs S xs) := rfl
@[simp] theorem cbK_ex : cbK f (.ex ex S) = .ex ex S := rfl
@[simp] theorem callB_app : callB f ms Γ S = cbK f (argsM ms Γ S) := by
  unfold callB
  cases argsM ms Γ S with
  | a xs S1 => show (match rdSs S1 xs with | some ds => (f ds).out S1 | none => .bad) = cbF f S1 (rdSs S1 xs); cases rdSs S1 xs <;> rfl
  | ex e S1 => rfl
  | bad => rfl
@[simp] theorem arget_a {xs : List Val} {k : List Val → Store → XR} : (AR.a xs S).get k = k xs S := rfl
@[simp] theorem arget_ex {k : List Val → Store → XR} : (AR.ex ex S).get k = .ex ex S := rfl
@[simp] theorem callM_app : callM g ms Γ S = (argsM ms Γ S).get (callD g) := rfl
@[simp] theorem makeM_app : makeM cn g ms Γ S = (argsM ms Γ S).get (makeD cn g) := rfl
def lstF : AP → XR
  | .ok ds S => match decide (ds.length ≤ 100000) with
    | true => .n (.lst ds) S
    | false => .bad
  | .ex e S => .ex e S
  | .bad => .bad
theorem lstF_ok (h : ds.length ≤ 100000) : lstF (.ok ds S) = .n (.lst ds) S := by
  unfold lstF
  dsimp only
  rw [decide_eq_true h]
@[simp] theorem lstM_app : lstM ms Γ S = lstF (argsP ms Γ S) := by
  unfold lstM lstF
  rfl
def tupF : AP → XR
  | .ok ds S => match decide (ds.length ≤ 100000) with
    | true => .v (.p (.tup ds)) S
    | false => .bad
  | .ex e S => .ex e S
  | .bad => .bad
theorem tupF_ok (h : ds.length ≤ 100000) : tupF (.ok ds S) = .v (.p (.tup ds)) S := by
  unfold tupF
  dsimp only
  rw [decide_eq_true h]
@[simp] theorem tupM_app : tupM ms Γ S = tupF (argsP ms Γ S) := by
  unfold tupM tupF
  rfl
@[simp] theorem lstF_0 : lstF (.ok [] S) = .n (.lst []) S := lstF_ok (by simp)
@[simp] theorem lstF_1 {a : Dat} : lstF (.ok [a] S) = .n (.lst [a]) S := lstF_ok (by simp)
@[simp] theorem lstF_2 {a b : Dat} : lstF (.ok [a, b] S) = .n (.lst [a, b]) S := lstF_ok (by simp)
@[simp] theorem lstF_3 {a b c : Dat} : lstF (.ok [a, b, c] S) = .n (.lst [a, b, c]) S := lstF_ok (by simp)
@[simp] theorem lstF_4 {a b c d : Dat} : lstF (.ok [a, b, c, d] S) = .n (.lst [a, b, c, d]) S := lstF_ok (by simp)
@[simp] theorem lstF_8 {a b c d e f g h : Dat} : lstF (.ok [a, b, c, d, e, f, g, h] S) = .n (.lst [a, b, c, d, e, f, g, h]) S := lstF_ok (by simp)
@[simp] theorem tupF_1 {a : Dat} : tupF (.ok [a] S) = .v (.p (.tup [a])) S := tupF_ok (by simp)
@[simp] theorem tupF_2 {a b : Dat} : tupF (.ok [a, b] S) = .v (.p (.tup [a, b])) S := tupF_ok (by simp)
@[simp] theorem tupF_3 {a b c : Dat} : tupF (.ok [a, b, c] S) = .v (.p (.tup [a, b, c])) S := tupF_ok (by simp)
/-! tests -/
@[simp] theorem tst_bl {k : Bool → Store → TR} : (XR.v (.p (.v (.bl b))) S).tst k = k b S := rfl
@[simp] theorem tst_ex {k : Bool → Store → TR} : (XR.ex ex S).tst k = .ex ex S := rfl
@[simp] theorem tstM_app : tstM m Γ S = (m Γ S).tst TR.ok := rfl
@[simp] theorem tget_ok {k : Bool → Store → TR} : (TR.ok b S).get k = k b S := rfl
@[simp] theorem tget_ex {k : Bool → Store → TR} : (TR.ex ex S).get k = .ex ex S := rfl
@[simp] theorem tgetX_ok {k : Bool → Store → XR} : (TR.ok b S).getX k = k b S := rfl
@[simp] theorem tgetX_ex {k : Bool → Store → XR} : (TR.ex ex S).getX k = .ex ex S := rfl
def notK (b : Bool) (S : Store) : TR := .ok (!b) S
@[simp] theorem notK_app : notK b S = .ok (!b) S := rfl
@[simp] theorem notT_app : notT mt Γ S = (mt Γ S).get notK := rfl
def andK (n : MT) (Γ : MEnv) : Bool → Store → TR
  | true, S => n Γ S
  | false, S => .ok false S
@[simp] theorem andK_t : andK nt Γ true S = nt Γ S := rfl
@[simp] theorem andK_f : andK nt Γ false S = .ok false S := rfl
@[simp] theorem andT_app : andT mt nt Γ S = (mt Γ S).get (andK nt Γ) := by
  unfold andT
  congr 1
  funext b S
  cases b <;> rfl
def orK (n : MT) (Γ : MEnv) : Bool → Store → TR
  | true, S => .ok true S
  | false, S => n Γ S
@[simp] theorem orK_t : orK nt Γ true S = .ok true S := rfl
@[simp] theorem orK_f : orK nt Γ false S = nt Γ S := rfl
@[simp] theorem orT_app : orT mt nt Γ S = (mt Γ S).get (orK nt Γ) := by
  unfold orT
  congr 1
  funext b S
  cases b <;> rfl
@[simp] theorem yesT_app : yesT Γ S = .ok true S := rfl
@[simp] theorem bl_bl {k : Bool → Store → XR} : (XR.v (.p (.v (.bl b))) S).bl k = k b S := rfl
@[simp] theorem bl_ex {k : Bool → Store → XR} : (XR.ex ex S).bl k = .ex ex S := rfl
def notMK (b : Bool) (S : Store) : XR := .v (.p (dB (!b))) S
@[simp] theorem notMK_app : notMK b S = .v (.p (dB (!b))) S := rfl
@[simp] theorem notM_app : notM m Γ S = (m Γ S).bl notMK := rfl
def andMK (n : ME) (Γ : MEnv) : Bool → Store → XR
  | true, S => n Γ S
  | false, S => .v (.p (dB false)) S
@[simp] theorem andMK_t : andMK mb Γ true S = mb Γ S := rfl
@[simp] theorem andMK_f : andMK mb Γ false S = .v (.p (dB false)) S := rfl
@[simp] theorem andM_app : andM ma mb Γ S = (ma Γ S).bl (andMK mb Γ) := by
  unfold andM
  congr 1
  funext b S
  cases b <;> rfl
def orMK (n : ME) (Γ : MEnv) : Bool → Store → XR
  | true, S => .v (.p (dB true)) S
  | false, S => n Γ S
@[simp] theorem orMK_t : orMK mb Γ true S = .v (.p (dB true)) S := rfl
@[simp] theorem orMK_f : orMK mb Γ false S = mb Γ S := rfl
@[simp] theorem orM_app : orM ma mb Γ S = (ma Γ S).bl (orMK mb Γ) := by
  unfold orM
  congr 1
  funext b S
  cases b <;> rfl
def ifK (m n : ME) (Γ : MEnv) : Bool → Store → XR
  | true, S => m Γ S
  | false, S => n Γ S
@[simp] theorem ifK_t : ifK ma mb Γ true S = ma Γ S := rfl
@[simp] theorem ifK_f : ifK ma mb Γ false S = mb Γ S := rfl
@[simp] theorem ifM_app : ifM mt ma mb Γ S = (mt Γ S).getX (ifK ma mb Γ) := by
  unfold ifM
  congr 1
  funext b S
  cases b <;> rfl
/-! what is walked, comprehensions -/
def itF (S : Store) : Option (List Dat) → IR
  | some es => .ok es S
  | none => .bad
@[simp] theorem itF_some : itF S (some ds) = .ok ds S := rfl
def itXK (f : Dat → Option (List Dat)) : PX → IR
  | .d d S => itF S (f d)
  | .ex e S => .ex e S
  | .bad => .bad
@[simp] theorem itXK_d {f : Dat → Option (List Dat)} : itXK f (.d d S) = itF S (f d) := rfl
@[simp] theorem itX_app {f : Dat → Option (List Dat)} : itX f m Γ S = itXK f (m Γ S).pure := by
  unfold itX
  cases (m Γ S).pure with
  | d d S1 => show (match f d with | some es => IR.ok es S1 | none => .bad) = itF S1 (f d); cases f d <;> rfl
  | ex e S1 => rfl
  | bad => rfl
def itAK (f : List Dat → Option (List Dat)) : AP → IR
  | .ok ds S => itF S (f ds)
  | .ex e S => .ex e S
  | .bad => .bad
@[simp] theorem itAK_ok {f : List Dat → Option (List Dat)} : itAK f (.ok ds S) = itF S (f ds) := rfl
@[simp] theorem itA_app {f : List Dat → Option (List Dat)} : itA f ms Γ S = itAK f (argsP ms Γ S) := by
  unfold itA
  cases argsP ms Γ S with
  | ok ds S1 => show (match f ds with | some es => IR.ok es S1 | none => .bad) = itF S1 (f ds); cases f ds <;> rfl
  | ex e S1 => rfl
  | bad => rfl
@[simp] theorem fList_lst : fList (.lst ds) = some ds := rfl
@[simp] theorem fTup_tup : fTup (.tup ds) = some ds := rfl
@[simp] theorem fStr_str {z : Str} : fStr (dS z) = some (sgD z) := rfl
@[simp] theorem fKeys_dK {kvs : List (Key × Dat)} : fKeys (.dK kvs) = some (kvs.map fun p => kD p.1) := rfl
@[simp] theorem fVals_dK {kvs : List (Key × Dat)} : fVals (.dK kvs) = some (kvs.map (·.2)) := rfl
@[simp] theorem fItems_dK {kvs : List (Key × Dat)} : fItems (.dK kvs) = some (kvs.map fun p => .tup [kD p.1, p.2]) := rfl
@[simp] theorem fEnum_lst : fEnum [.lst ds] = some (enD ds) := rfl
@[simp] theorem fZip_lst : fZip [.lst ds, .lst es] = some (zpD ds es) := rfl
theorem fRng1_int {i : Int} (h : -100000 ≤ i) (h2 : i ≤ 100000) : fRng1 [dI i] = some (rgD 0 i.toNat) := by
  show (match decide (-100000 ≤ i) && decide (i ≤ 100000) with | true => _ | false => _) = _
  rw [decide_eq_true h, decide_eq_true h2] <;> rfl
theorem fRng2_int {i j : Int} (h : -100000 ≤ i) (h2 : i ≤ 100000) (h3 : -100000 ≤ j) (h4 : j ≤ 100000) : fRng2 [dI i, dI j] = some (rgD i (j - i).toNat) := by
  show (match decide (-100000 ≤ i) && decide (i ≤ 100000) && decide (-100000 ≤ j) && decide (j ≤ 100000) with | true => _ | false => _) = _
  rw [decide_eq_true h, decide_eq_true h2, decide_eq_true h3, decide_eq_true h4] <;> rfl
def lcF : Option (List Dat × Store) → XR
  | some (es, S) => .n (.lst es) S
  | none => .bad
@[simp] theorem lcF_some : lcF (some (es, S)) = .n (.lst es) S := rfl
def lcK (mg : MG) (vs : List Nat) (mt : MT) (me : ME) (Γ : MEnv) : IR → XR
  | .ok ds S => match decide (ds.length ≤ 100000) with
    | true => lcF (lcL mg vs mt me Γ ds S)
    | false => .bad
  | .ex e S => .ex e S
  | .bad => .bad
variable {mi : MI} {mg : MG} {vs : List Nat} {me mk : ME}
@[simp] theorem lcM_app : lcM mi mg vs mt me Γ S = lcK mg vs mt me Γ (mi Γ S) := by
  unfold lcM lcK
  cases mi Γ S with
  | ok ds S1 =>
    dsimp only
    cases decide (ds.length ≤ 100000) with
    | false => rfl
    | true => dsimp only; cases lcL mg vs mt me Γ ds S1 <;> rfl
  | ex e S1 => rfl
  | bad => rfl
theorem lcK_ok (h : ds.length ≤ 100000) : lcK mg vs mt me Γ (.ok ds S) = lcF (lcL mg vs mt me Γ ds S) := by
  show (match decide (ds.length ≤ 100000) with | true => _ | false => _) = _
  rw [decide_eq_true h]
/-- a comprehension whose body only looks -/
theorem lcL_pure {α : Type} {xs : List α} {R : α → Dat} {p : α → Bool} {f : α → Dat} {Γ2 : α → MEnv} (ha : ∀ x ∈ xs, mg (R x) (wipeE Γ vs) = some (Γ2 x)) (ht : ∀ x ∈ xs, mt (Γ2 x) S = .ok (p x) S) (he : ∀ x ∈ xs, p x = true → (me (Γ2 x) S).pure = .d (f x) S) :
    lcL mg vs mt me Γ (xs.map R) S = some ((xs.filter p).map f, S) := by
  induction xs with
  | nil => rfl
  | cons x xs ih =>
    have ih := ih (fun y h => ha y (List.mem_cons_of_mem _ h)) (fun y h => ht y (List.mem_cons_of_mem _ h)) (fun y h => he y (List.mem_cons_of_mem _ h))
    rw [List.map_cons]
    simp only [lcL]
    rw [ha x List.mem_cons_self]
    dsimp only
    rw [ht x List.mem_cons_self]
    cases hp : p x with
    | false =>
      dsimp only
      rw [ih, List.filter_cons, if_neg (by rw [hp]; decide)]
    | true =>
      dsimp only
      rw [he x List.mem_cons_self hp]
      dsimp only
      rw [ih, List.filter_cons, if_pos hp, List.map_cons]
theorem lcL_map {α : Type} {xs : List α} {R : α → Dat} {f : α → Dat} {Γ2 : α → MEnv} (ha : ∀ x ∈ xs, mg (R x) (wipeE Γ vs) = some (Γ2 x)) (he : ∀ x ∈ xs, (me (Γ2 x) S).pure = .d (f x) S) :
    lcL mg vs yesT me Γ (xs.map R) S = some (xs.map f, S) := by
  have := lcL_pure (mt := yesT) (p := fun _ => true) ha (fun _ _ => rfl) fun x h _ => he x h
  rwa [List.filter_eq_self.2 (fun _ _ => rfl)] at this
def dcF : Option (List (Key × Dat) × Store) → XR
  | some (es, S) => .n (.dK (mkD es)) S
  | none => .bad
@[simp] theorem dcF_some {es : List (Key × Dat)} : dcF (some (es, S)) = .n (.dK (mkD es)) S := rfl
def dcK (mg : MG) (vs : List Nat) (mt : MT) (mk me : ME) (Γ : MEnv) : IR → XR
  | .ok ds S => match decide (ds.length ≤ 100000) with
    | true => dcF (dcL mg vs mt mk me Γ ds S)
    | false => .bad
  | .ex e S => .ex e S
  | .bad => .bad
@[simp] theorem dcM_app : dcM mi mg vs mt mk me Γ S = dcK mg vs mt mk me Γ (mi Γ S) := by
  unfold dcM dcK
  cases mi Γ S with
  | ok ds S1 =>
    dsimp only
    cases decide (ds.length ≤ 100000) with
    | false => rfl
    | true => dsimp only; cases dcL mg vs mt mk me Γ ds S1 <;> rfl
  | ex e S1 => rfl
  | bad => rfl
theorem dcK_ok (h : ds.length ≤ 100000) : dcK mg vs mt mk me Γ (.ok ds S) = dcF (dcL mg vs mt mk me Γ ds S) := by
  show (match decide (ds.length ≤ 100000) with | true => _ | false => _) = _
  rw [decide_eq_true h]
theorem dcL_map {α : Type} {xs : List α} {R : α → Dat} {kd f : α → Dat} {k : α → Key} {Γ2 : α → MEnv} (ha : ∀ x ∈ xs, mg (R x) (wipeE Γ vs) = some (Γ2 x)) (hk : ∀ x ∈ xs, (mk (Γ2 x) S).pure = .d (kd x) S) (hkd : ∀ x ∈ xs, keyOf (kd x) = some (k x)) (he : ∀ x ∈ xs, (me (Γ2 x) S).pure = .d (f x) S) :
    dcL mg vs yesT mk me Γ (xs.map R) S = some (xs.map fun x => (k x, f x), S) := by
  induction xs with
  | nil => rfl
  | cons x xs ih =>
    have ih := ih (fun y h => ha y (List.mem_cons_of_mem _ h)) (fun y h => hk y (List.mem_cons_of_mem _ h)) (fun y h => hkd y (List.mem_cons_of_mem _ h)) (fun y h => he y (List.mem_cons_of_mem _ h))
    rw [List.map_cons]
    simp only [dcL]
    rw [ha x List.mem_cons_self]
    dsimp only [yesT]
    rw [hk x List.mem_cons_self]
    dsimp only
    rw [hkd x List.mem_cons_self]
    dsimp only
    rw [he x List.mem_cons_self]
    dsimp only
    rw [ih, List.map_cons]
/-! slices, attributes -/
@[simp] theorem noPart_app : noPart Γ S = .ok none S := rfl
def partK : XR → OR
  | .v (.p (.v (.int i))) S1 => .ok (some i) S1
  | .ex e S1 => .ex e S1
  | _ => .bad
@[simp] theorem partK_v {i : Int} : partK (.v (.p (dI i)) S) = .ok (some i) S := rfl
@[simp] theorem part_app : part m Γ S = partK (m Γ S) := rfl
def slF (l h : Option Int) (S : Store) : Option Dat → XR
  | some (.lst ds) => .n (.lst (cutD ds l h)) S
  | _ => .bad
@[simp] theorem slF_lst {l h : Option Int} : slF l h S (some (.lst ds)) = .n (.lst (cutD ds l h)) S := rfl
def slK3 (x : Val) (l : Option Int) : OR → XR
  | .ok h S3 => slF l h S3 (rdS S3 x)
  | .ex e S3 => .ex e S3
  | .bad => .bad
@[simp] theorem slK3_ok {l h : Option Int} : slK3 x l (.ok h S) = slF l h S (rdS S x) := rfl
def slK2 (x : Val) (hi : MO) (Γ : MEnv) : OR → XR
  | .ok l S2 => slK3 x l (hi Γ S2)
  | .ex e S2 => .ex e S2
  | .bad => .bad
@[simp] theorem slK2_ok {hi : MO} {l : Option Int} : slK2 x hi Γ (.ok l S) = slK3 x l (hi Γ S) := rfl
def slK1 (lo hi : MO) (Γ : MEnv) (x : Val) (S : Store) : XR := slK2 x hi Γ (lo Γ S)
@[simp] theorem slK1_app {lo hi : MO} : slK1 lo hi Γ x S = slK2 x hi Γ (lo Γ S) := rfl
@[simp] theorem slM_app {lo hi : MO} : slM m lo hi Γ S = (m Γ S).get (slK1 lo hi Γ) := by
  unfold slM
  congr 1
def revF (S : Store) : Option Dat → XR
  | some (.lst ds) => .n (.lst ds.reverse) S
  | _ => .bad
@[simp] theorem revF_lst : revF S (some (.lst ds)) = .n (.lst ds.reverse) S := rfl
def revK (x : Val) (S : Store) : XR := revF S (rdS S x)
@[simp] theorem revK_app : revK x S = revF S (rdS S x) := rfl
@[simp] theorem revM_app : revM m Γ S = (m Γ S).get revK := rfl
def fldF (S : Store) : Option Val → XR
  | some y => .v y S
  | none => .bad
@[simp] theorem fldF_some : fldF S (some x) = .v x S := rfl
def fldK (cn f : Str) (x : Val) (S : Store) : XR := fldF S (fldV cn f S x)
@[simp] theorem fldK_app {f : Str} : fldK cn f x S = fldF S (fldV cn f S x) := rfl
@[simp] theorem fldM_app {f : Str} : fldM cn f m Γ S = (m Γ S).get (fldK cn f) := by
  unfold fldM
  congr 1
/-! own methods, operators -/
def methF (f : DM) (x : Val) (ms : List ME) (Γ : MEnv) (S : Store) : Bool → XR
  | true => (argsM ms Γ S).get (fun xs S2 => callD f (x :: xs) S2)
  | false => .bad
def methC (f : DM) (x : Val) (xs : List Val) (S : Store) : XR := callD f (x :: xs) S
@[simp] theorem methC_app {xs : List Val} : methC g x xs S = callD g (x :: xs) S := rfl
@[simp] theorem methF_t : methF g x ms Γ S true = (argsM ms Γ S).get (methC g x) := rfl
def methK (cn m : Str) (f : DM) (ms : List ME) (Γ : MEnv) (x : Val) (S : Store) : XR := methF f x ms Γ S (recv cn m S x)
@[simp] theorem methK_app : methK cn n g ms Γ x S = methF g x ms Γ S (recv cn n S x) := rfl
@[simp] theorem methM_app : methM cn n g m ms Γ S = (m Γ S).get (methK cn n g ms Γ) := by
  unfold methM
  congr 1
def propF (f : DM) (x : Val) (S : Store) : Bool → XR
  | true => (callD f [x] S).noX
  | false => .bad
@[simp] theorem propF_t : propF g x S true = (callD g [x] S).noX := rfl
def propK (cn : Str) (f : DM) (x : Val) (S : Store) : XR := propF f x S (recvP cn S x)
@[simp] theorem propK_app : propK cn g x S = propF g x S (recvP cn S x) := rfl
@[simp] theorem propM_app : propM cn g m Γ S = (m Γ S).get (propK cn g) := by
  unfold propM
  congr 1
@[simp] theorem noX_v : (XR.v x S).noX = .v x S := rfl
@[simp] theorem noX_n {c : MCell} : (XR.n c S).noX = .n c S := rfl
def lenF (f : DM) (x : Val) (S : Store) : Bool → XR
  | true => (callD f [x] S).mapD gLen
  | false => .bad
@[simp] theorem lenF_t : lenF g x S true = (callD g [x] S).mapD gLen := rfl
def lenK (cn : Str) (f : DM) : List Val → Store → XR
  | [x], S => lenF f x S (recvP cn S x)
  | _, _ => .bad
@[simp] theorem lenK_1 : lenK cn g [x] S = lenF g x S (recvP cn S x) := rfl
@[simp] theorem lenO_app : lenO cn g ms Γ S = (argsM ms Γ S).get (lenK cn g) := by
  unfold lenO
  congr 1
  funext xs S1
  match xs with
  | [] => rfl
  | [x] => show (match recvP cn S1 x with | true => _ | false => _) = lenF g x S1 (recvP cn S1 x); cases recvP cn S1 x <;> rfl
  | _ :: _ :: _ => rfl
def boolF (f : DM) (x : Val) (S : Store) : Bool → XR
  | true => (callD f [x] S).mapD gBl
  | false => .bad
@[simp] theorem boolF_t : boolF g x S true = (callD g [x] S).mapD gBl := rfl
def boolK (cn : Str) (f : DM) : List Val → Store → XR
  | [x], S => boolF f x S (recvP cn S x)
  | _, _ => .bad
@[simp] theorem boolK_1 : boolK cn g [x] S = boolF g x S (recvP cn S x) := rfl
@[simp] theorem boolO_app : boolO cn g ms Γ S = (argsM ms Γ S).get (boolK cn g) := by
  unfold boolO
  congr 1
  funext xs S1
  match xs with
  | [] => rfl
  | [x] => show (match recvP cn S1 x with | true => _ | false => _) = boolF g x S1 (recvP cn S1 x); cases recvP cn S1 x <;> rfl
  | _ :: _ :: _ => rfl
@[simp] theorem mapD_v {h : Dat → Option Dat} : (XR.v (.p d) S).mapD h = fldF S ((h d).map .p) := by
  show (match h d with | some e => XR.v (.p e) S | none => .bad) = _
  cases h d <;> rfl
@[simp] theorem gBl_b : gBl (dB b) = some (dB b) := rfl
@[simp] theorem gNot_b : gNot (dB b) = some (dB (!b)) := rfl
theorem gLen_n {i : Nat} (h : i ≤ 100000) : gLen (dI (i : Nat)) = some (dI (i : Nat)) := by
  show (match decide ((0 : Int) ≤ (i : Nat)) && decide (((i : Nat) : Int) ≤ 100000) with | true => _ | false => _) = _
  rw [decide_eq_true (by omega), decide_eq_true (by omega)] <;> rfl
def negG : Bool → Dat → Option Dat
  | true => gNot
  | false => gBl
@[simp] theorem negG_t : negG true = gNot := rfl
@[simp] theorem negG_f : negG false = gBl := rfl
def inF (f : DM) (neg : Bool) (x y : Val) (S : Store) : Bool → XR
  | true => (callD f [y, x] S).mapD (negG neg)
  | false => .bad
@[simp] theorem inF_t : inF g b x y S true = (callD g [y, x] S).mapD (negG b) := rfl
def inK2 (cn : Str) (f : DM) (neg : Bool) (x y : Val) (S : Store) : XR := inF f neg x y S (recvP cn S y)
@[simp] theorem inK2_app : inK2 cn g b x y S = inF g b x y S (recvP cn S y) := rfl
def inK1 (cn : Str) (f : DM) (neg : Bool) (mb : ME) (Γ : MEnv) (x : Val) (S : Store) : XR := (mb Γ S).get (inK2 cn f neg x)
@[simp] theorem inK1_app : inK1 cn g b mb Γ x S = (mb Γ S).get (inK2 cn g b x) := rfl
@[simp] theorem inO_app : inO cn g b ma mb Γ S = (ma Γ S).get (inK1 cn g b mb Γ) := by
  unfold inO
  congr 1
def ixF (f : DM) (x y : Val) (S : Store) : Bool → XR
  | true => callD f [x, y] S
  | false => .bad
@[simp] theorem ixF_t : ixF g x y S true = callD g [x, y] S := rfl
def ixK2 (cn : Str) (f : DM) (x y : Val) (S : Store) : XR := ixF f x y S (recvP cn S x)
@[simp] theorem ixK2_app : ixK2 cn g x y S = ixF g x y S (recvP cn S x) := rfl
def ixK1 (cn : Str) (f : DM) (mb : ME) (Γ : MEnv) (x : Val) (S : Store) : XR := (mb Γ S).get (ixK2 cn f x)
@[simp] theorem ixK1_app : ixK1 cn g mb Γ x S = (mb Γ S).get (ixK2 cn g x) := rfl
@[simp] theorem ixO_app : ixO cn g ma mb Γ S = (ma Γ S).get (ixK1 cn g mb Γ) := by
  unfold ixO
  congr 1
def binK2 (cn : Str) (f : DM) (os : List Str) (int : Bool) (x y : Val) (S : Store) : XR := ixF f x y S (recvP cn S x && binOk cn os int S y)
@[simp] theorem binK2_app {os : List Str} : binK2 cn g os b x y S = ixF g x y S (recvP cn S x && binOk cn os b S y) := rfl
def binK1 (cn : Str) (f : DM) (os : List Str) (int : Bool) (mb : ME) (Γ : MEnv) (x : Val) (S : Store) : XR := (mb Γ S).get (binK2 cn f os int x)
@[simp] theorem binK1_app {os : List Str} : binK1 cn g os b mb Γ x S = (mb Γ S).get (binK2 cn g os b x) := rfl
@[simp] theorem binO_app {os : List Str} : binO cn g os b ma mb Γ S = (ma Γ S).get (binK1 cn g os b mb Γ) := by
  unfold binO
  congr 1
def eqOk (cn : Str) (S : Store) (x y : Val) : Bool := recvP cn S x && decide (cn ∈ CLS) && (match kindV S y with
  | some kd => eqKd cn kd
  | none => false)
def eqF (f : DM) (neg : Bool) (x y : Val) (S : Store) : Bool → XR
  | true => (callD f [x, y] S).mapD (negG neg)
  | false => .bad
@[simp] theorem eqF_t : eqF g b x y S true = (callD g [x, y] S).mapD (negG b) := rfl
def eqK2 (cn : Str) (f : DM) (neg : Bool) (x y : Val) (S : Store) : XR := eqF f neg x y S (eqOk cn S x y)
@[simp] theorem eqK2_app : eqK2 cn g b x y S = eqF g b x y S (eqOk cn S x y) := rfl
def eqK1 (cn : Str) (f : DM) (neg : Bool) (mb : ME) (Γ : MEnv) (x : Val) (S : Store) : XR := (mb Γ S).get (eqK2 cn f neg x)
@[simp] theorem eqK1_app : eqK1 cn g b mb Γ x S = (mb Γ S).get (eqK2 cn g b x) := rfl
@[simp] theorem eqO_app : eqO cn g b ma mb Γ S = (ma Γ S).get (eqK1 cn g b mb Γ) := by
  unfold eqO
  congr 1
  funext x S1
  show (mb Γ S1).get _ = (mb Γ S1).get _
  congr 1
  funext y S2
  show (match recvP cn S2 x && decide (cn ∈ CLS) with | true => _ | false => _) = eqF g b x y S2 (recvP cn S2 x && decide (cn ∈ CLS) && _)
  cases (recvP cn S2 x && decide (cn ∈ CLS)) with
  | false => rfl
  | true =>
    rw [Bool.true_and]
    dsimp only
    cases kindV S2 y with
    | none => rfl
    | some kd => dsimp only; cases eqKd cn kd <;> cases b <;> rfl
end

/-! ### calls -/
section
variable {g : DM} {a b c d : Dat} {S T : Store} {e : Exn} {cl : MCell} {cn : Str}
theorem callD_0 : callD g [] S = backD [] S (g [] []) := rfl
theorem callD_1 : callD g [.p a] S = backD [] S (g [.p a] []) := rfl
theorem callD_2 : callD g [.p a, .p b] S = backD [] S (g [.p a, .p b] []) := rfl
theorem callD_3 : callD g [.p a, .p b, .p c] S = backD [] S (g [.p a, .p b, .p c] []) := rfl
theorem callD_4 : callD g [.p a, .p b, .p c, .p d] S = backD [] S (g [.p a, .p b, .p c, .p d] []) := rfl
@[simp] theorem backD_ret : backD [] S (.ret (.p d) []) = .v (.p d) S := rfl
@[simp] theorem backD_lst {ds : List Dat} : backD [] S (.new (.lst ds) []) = .n (.lst ds) S := rfl
@[simp] theorem backD_dK {ds : List (Key × Dat)} : backD [] S (.new (.dK ds) []) = .n (.dK ds) S := rfl
@[simp] theorem backD_exc : backD [] S (.exc e []) = .ex e S := rfl
def makeF (S : Store) : DR → XR
  | .ret (.p (.v .non)) [c] => match c with
    | .gone => .bad
    | _ => match mapC (backV []) c with
      | some c' => .n c' S
      | none => .bad
  | .exc e [c] => match c with
    | .gone => .bad
    | _ => match mapC (backV []) c with
      | some _ => .ex e S
      | none => .bad
  | _ => .bad
theorem makeAt_nil {xs : List Val} (h : mapVs (renV []) xs = some xs) : makeAt cn g xs S [] = makeF S (g (.r 0 :: xs) [.ins cn []]) := by
  unfold makeAt
  rw [show fpOk S.length [] = true from rfl, h, show subS S [] = [] from rfl, show mapCs (renV []) [] = some [] from rfl]
  dsimp only [List.length_nil, List.nil_append, List.drop_zero, List.take_zero, rest, wr]
  rw [show backS [] [] = some [] from rfl]
  cases g (.r 0 :: xs) [.ins cn []] with
  | ret x S' =>
    cases x with
    | r k => rfl
    | p d =>
      cases d with
      | v u =>
        cases u with
        | non =>
          match S' with
          | [] => rfl
          | [c] => cases c <;> rfl
          | _ :: _ :: _ => rfl
        | _ => rfl
      | _ => rfl
  | new c S' => rfl
  | exc e S' =>
    match S' with
    | [] => rfl
    | [c] => cases c <;> rfl
    | _ :: _ :: _ => rfl
  | bad => rfl
theorem makeD_1 : makeD cn g [.p a] S = makeF S (g [.r 0, .p a] [.ins cn []]) := makeAt_nil rfl
theorem makeD_2 : makeD cn g [.p a, .p b] S = makeF S (g [.r 0, .p a, .p b] [.ins cn []]) := makeAt_nil rfl
theorem makeD_3 : makeD cn g [.p a, .p b, .p c] S = makeF S (g [.r 0, .p a, .p b, .p c] [.ins cn []]) := makeAt_nil rfl
theorem makeF_exc {fs : List (Str × Val)} (h : (mapFs (backV []) fs).isSome = true) : makeF S (.exc e [.ins cn fs]) = .ex e S := by
  show (match (match mapFs (backV []) fs with | some gs => some (MCell.ins cn gs) | none => none) with | some _ => XR.ex e S | none => .bad) = _
  cases q : mapFs (backV []) fs with
  | none => rw [q] at h; cases h
  | some gs => rfl
@[simp] theorem makeF_exc0 : makeF S (.exc e [.ins cn []]) = .ex e S := rfl
@[simp] theorem makeF_1 {f : Str} : makeF S (.ret (.p dN) [.ins cn [(f, .p a)]]) = .n (.ins cn [(f, .p a)]) S := rfl
@[simp] theorem makeF_2 {f f2 : Str} : makeF S (.ret (.p dN) [.ins cn [(f, .p a), (f2, .p b)]]) = .n (.ins cn [(f, .p a), (f2, .p b)]) S := rfl
@[simp] theorem makeF_3 {f f2 f3 : Str} : makeF S (.ret (.p dN) [.ins cn [(f, .p a), (f2, .p b), (f3, .p c)]]) = .n (.ins cn [(f, .p a), (f2, .p b), (f3, .p c)]) S := rfl
end

/-! ### statements -/
section
variable {x y : Val} {S S1 : Store} {Γ : MEnv} {d e : Dat} {ds es : List Dat} {m ma mb mo mi mv : ME} {ms : List ME} {n cn f : Str} {mt : MT} {a b : MS} {ex : Exn} {i j k : Nat} {it : MI} {mg : MG} {wp : List Nat} {bb : Bool}
def Rs.seq (r : Rs) (b : MS) : Rs := match r with
  | .nx Γ S => b Γ S
  | r => r
@[simp] theorem seq_nx : (Rs.nx Γ S).seq b = b Γ S := rfl
@[simp] theorem seq_rt : (Rs.rt x S).seq b = .rt x S := rfl
@[simp] theorem seq_rn {c : MCell} : (Rs.rn c S).seq b = .rn c S := rfl
@[simp] theorem seq_ex : (Rs.ex ex Γ S).seq b = .ex ex Γ S := rfl
@[simp] theorem seq_bk : (Rs.bk Γ S).seq b = .bk Γ S := rfl
@[simp] theorem seq_ct : (Rs.ct Γ S).seq b = .ct Γ S := rfl
@[simp] theorem seqM_app : seqM a b Γ S = (a Γ S).seq b := rfl
@[simp] theorem nilM_app : nilM Γ S = .nx Γ S := rfl
@[simp] theorem brkM_app : brkM Γ S = .bk Γ S := rfl
@[simp] theorem cntM_app : cntM Γ S = .ct Γ S := rfl
def asgK (i : Nat) (Γ : MEnv) : GX → Rs
  | .v x S => .nx (Γ.set i (some x)) S
  | .ex e S => .ex e Γ S
  | .bad => .bad
@[simp] theorem asgK_v : asgK i Γ (.v x S) = .nx (Γ.set i (some x)) S := rfl
@[simp] theorem asgK_ex : asgK i Γ (.ex ex S) = .ex ex Γ S := rfl
@[simp] theorem asgM_app : asgM i m Γ S = asgK i Γ (m Γ S).val := by
  unfold asgM asgK
  cases (m Γ S).val <;> rfl
@[simp] theorem asgC_app : asgC i m Γ S = asgK i Γ ((m Γ S).al true) := by
  unfold asgC asgK
  cases m Γ S <;> rfl
def dropK (Γ : MEnv) : GX → Rs
  | .v _ S => .nx Γ S
  | .ex e S => .ex e Γ S
  | .bad => .bad
@[simp] theorem dropK_v : dropK Γ (.v x S) = .nx Γ S := rfl
@[simp] theorem dropK_ex : dropK Γ (.ex ex S) = .ex ex Γ S := rfl
@[simp] theorem dropM_app : dropM m Γ S = dropK Γ (m Γ S).val := by
  unfold dropM dropK
  cases (m Γ S).val <;> rfl
def retK (Γ : MEnv) : XR → Rs
  | .v x S => .rt x S
  | .n c S => .rn c S
  | .ex e S => .ex e Γ S
  | .bad => .bad
@[simp] theorem retK_v : retK Γ (.v x S) = .rt x S := rfl
@[simp] theorem retK_n {c : MCell} : retK Γ (.n c S) = .rn c S := rfl
@[simp] theorem retK_ex : retK Γ (.ex ex S) = .ex ex Γ S := rfl
@[simp] theorem retM_app : retM m Γ S = retK Γ (m Γ S) := by
  unfold retM retK
  rfl
@[simp] theorem ret0M_app : ret0M Γ S = .rt (.p dN) S := rfl
def ifSK (a b : MS) (Γ : MEnv) : TR → Rs
  | .ok true S => a Γ S
  | .ok false S => b Γ S
  | .ex e S => .ex e Γ S
  | .bad => .bad
@[simp] theorem ifSK_t : ifSK a b Γ (.ok true S) = a Γ S := rfl
@[simp] theorem ifSK_f : ifSK a b Γ (.ok false S) = b Γ S := rfl
@[simp] theorem ifSK_ex : ifSK a b Γ (.ex ex S) = .ex ex Γ S := rfl
@[simp] theorem ifS_app : ifS mt a b Γ S = ifSK a b Γ (mt Γ S) := by
  unfold ifS ifSK
  rfl
def forK (mg : MG) (wp : List Nat) (b : MS) (Γ : MEnv) : IR → Rs
  | .ok ds S => forL mg wp b ds (wipeE Γ wp) S
  | .ex e S => .ex e Γ S
  | .bad => .bad
@[simp] theorem forK_ok : forK mg wp b Γ (.ok ds S) = forL mg wp b ds (wipeE Γ wp) S := rfl
@[simp] theorem forM_app : forM it mg wp b Γ S = forK mg wp b Γ (it Γ S) := by
  unfold forM forK
  rfl
def Rs.turn (r : Rs) (wp : List Nat) (k : MEnv → Store → Rs) : Rs := match r with
  | .nx Γ S => k (wipeE Γ wp) S
  | .ct Γ S => k (wipeE Γ wp) S
  | .bk Γ S => .nx (wipeE Γ wp) S
  | r => r
@[simp] theorem turn_nx {q : MEnv → Store → Rs} : (Rs.nx Γ S).turn wp q = q (wipeE Γ wp) S := rfl
@[simp] theorem turn_ct {q : MEnv → Store → Rs} : (Rs.ct Γ S).turn wp q = q (wipeE Γ wp) S := rfl
@[simp] theorem turn_bk {q : MEnv → Store → Rs} : (Rs.bk Γ S).turn wp q = .nx (wipeE Γ wp) S := rfl
@[simp] theorem turn_rt {q : MEnv → Store → Rs} : (Rs.rt x S).turn wp q = .rt x S := rfl
@[simp] theorem turn_rn {q : MEnv → Store → Rs} {c : MCell} : (Rs.rn c S).turn wp q = .rn c S := rfl
@[simp] theorem turn_ex {q : MEnv → Store → Rs} : (Rs.ex ex Γ S).turn wp q = .ex ex Γ S := rfl
@[simp] theorem forL_nil : forL mg wp b [] Γ S = .nx Γ S := rfl
def forO (mg : MG) (wp : List Nat) (b : MS) (ds : List Dat) (S : Store) : Option MEnv → Rs
  | some Γ => (b Γ S).turn wp (forL mg wp b ds)
  | none => .bad
@[simp] theorem forO_some : forO mg wp b ds S (some Γ) = (b Γ S).turn wp (forL mg wp b ds) := rfl
theorem forL_cons : forL mg wp b (d :: ds) Γ S = forO mg wp b ds S (mg d Γ) := by
  rw [forL]
  cases mg d Γ with
  | none => rfl
  | some Γ1 => show (match b Γ1 S with | .nx Γ2 S2 => _ | .ct Γ2 S2 => _ | .bk Γ2 S2 => _ | r => r) = (b Γ1 S).turn wp _; cases b Γ1 S <;> rfl
@[simp] theorem wipe_nil : wipeE Γ [] = Γ := rfl
@[simp] theorem wipe_cons {v : Nat} {vs : List Nat} : wipeE Γ (v :: vs) = (wipeE Γ vs).set v none := rfl
@[simp] theorem mgN_app : mgN i d Γ = some (Γ.set i (some (.p d))) := rfl
@[simp] theorem mgT_app {gs : List MG} : mgT gs (.tup ds) Γ = mgAll gs ds Γ := rfl
@[simp] theorem mgL_app {gs : List MG} : mgL gs (.lst ds) Γ = mgAll gs ds Γ := rfl
@[simp] theorem mgAll_nil : mgAll [] [] Γ = some Γ := rfl
def mgC (gs : List MG) (ds : List Dat) : Option MEnv → Option MEnv
  | some Γ => mgAll gs ds Γ
  | none => none
@[simp] theorem mgC_some {gs : List MG} : mgC gs ds (some Γ) = mgAll gs ds Γ := rfl
@[simp] theorem mgAll_cons {g : MG} {gs : List MG} : mgAll (g :: gs) (d :: ds) Γ = mgC gs ds (g d Γ) := by
  rw [mgAll]
  cases g d Γ <;> rfl
def asgTK (mg : MG) (Γ : MEnv) : PX → Rs
  | .d d S => match mg d Γ with
    | some Γ1 => .nx Γ1 S
    | none => .bad
  | .ex e S => .ex e Γ S
  | .bad => .bad
def nxO (S : Store) : Option MEnv → Rs
  | some Γ => .nx Γ S
  | none => .bad
@[simp] theorem nxO_some : nxO S (some Γ) = .nx Γ S := rfl
@[simp] theorem asgTK_d : asgTK mg Γ (.d d S) = nxO S (mg d Γ) := by
  show (match mg d Γ with | some Γ1 => Rs.nx Γ1 S | none => .bad) = _
  cases mg d Γ <;> rfl
@[simp] theorem asgT_app : asgT mg m Γ S = asgTK mg Γ (m Γ S).pure := by
  unfold asgT asgTK
  rfl
@[simp] theorem raiseM_app : raiseM cn Γ S = .ex ⟨cn, none⟩ Γ S := rfl
def parK2 (i j : Nat) (Γ : MEnv) (x : Val) : GX → Rs
  | .v y S => .nx ((Γ.set i (some x)).set j (some y)) S
  | _ => .bad
@[simp] theorem parK2_v : parK2 i j Γ x (.v y S) = .nx ((Γ.set i (some x)).set j (some y)) S := rfl
def parK (i j : Nat) (fb : Bool) (mb : ME) (Γ : MEnv) : GX → Rs
  | .v x S => parK2 i j Γ x ((mb Γ S).al fb)
  | .ex e S => .ex e Γ S
  | .bad => .bad
@[simp] theorem parK_v : parK i j bb mb Γ (.v x S) = parK2 i j Γ x ((mb Γ S).al bb) := rfl
@[simp] theorem parM_app {fa : Bool} : parM i j fa bb ma mb Γ S = parK i j bb mb Γ ((ma Γ S).al fa) := by
  unfold parM parK
  cases (ma Γ S).al fa with
  | v x S1 => dsimp only; cases (mb Γ S1).al bb <;> rfl
  | ex e S1 => rfl
  | bad => rfl
end
end Mr
end

section
set_option maxRecDepth 100000
set_option maxHeartbeats 4000000
/-! Mx2: how mirrors are evaluated: primitives, calls that carry a cell, loops with a promise. -/
namespace Mr
open PySem L2 Dm

@[simp] theorem gx0 {α : Type} (a : α) (l : List α) : (a :: l)[0]? = some a := rfl
section
variable {i j k n : Int} {a b : Bool} {d e : Dat} {ds es : List Dat} {xs ys : List Str} {x y z : Str} {kvs : List (Key × Dat)} {neg : Bool}
@[simp] theorem pAdd_i : pAdd [dI i, dI j] = .d (dI (i + j)) := rfl
@[simp] theorem pSub_i : pSub [dI i, dI j] = .d (dI (i - j)) := rfl
theorem pMul_l (h : i.natAbs < 2 ^ 64) : pMul [dI i, dI j] = .d (dI (i * j)) := by
  show (match mulB i j with | true => _ | false => _) = _
  rw [show mulB i j = true by unfold mulB; rw [decide_eq_true h]; rfl]
theorem pMul_r (h : j.natAbs < 2 ^ 64) : pMul [dI i, dI j] = .d (dI (i * j)) := by
  show (match mulB i j with | true => _ | false => _) = _
  rw [show mulB i j = true by unfold mulB; rw [decide_eq_true h, Bool.or_true]]
theorem pDiv_i (h : 0 < j) (h2 : j < 1073741824) : pDiv [dI i, dI j] = .d (dI (i / j)) := by
  show (match divB i j with | true => _ | false => _) = _
  rw [show divB i j = true by unfold divB; rw [decide_eq_true h, decide_eq_true h2]; rfl]
theorem pMod_i (h : 0 < j) : pMod [dI i, dI j] = .d (dI (i % j)) := by
  show (match modB i j with | true => _ | false => _) = _
  rw [show modB i j = true by unfold modB; rw [decide_eq_true h]]
theorem pPow_i (h : powB i j = true) : pPow [dI i, dI j] = .d (dI (i ^ j.toNat)) := by
  show (match powB i j with | true => _ | false => _) = _
  rw [h]
@[simp] theorem pMax_i : pMax [dI i, dI j] = .d (dI (max i j)) := by
  show PR.d (dI (if j > i then j else i)) = _
  rw [show (if j > i then j else i) = max i j by split <;> omega]
@[simp] theorem pMin_i : pMin [dI i, dI j] = .d (dI (min i j)) := by
  show PR.d (dI (if j < i then j else i)) = _
  rw [show (if j < i then j else i) = min i j by split <;> omega]
@[simp] theorem pPow_18 : pPow [dI 10, dI 18] = .d (dI 1000000000000000000) := by
  rw [pPow_i (by decide)]
  rfl
@[simp] theorem pMul_if {p : Prop} [Decidable p] : pMul [dI i, dI (if p then 1 else 0)] = .d (dI (i * if p then 1 else 0)) := pMul_r (by split <;> decide)
@[simp] theorem pNeg_i : pNeg [dI i] = .d (dI (-i)) := rfl
@[simp] theorem pLt_i : pLt [dI i, dI j] = .d (dB (decide (i < j))) := rfl
@[simp] theorem pLe_i : pLe [dI i, dI j] = .d (dB (decide (i ≤ j))) := rfl
@[simp] theorem pGt_i : pGt [dI i, dI j] = .d (dB (decide (i > j))) := rfl
@[simp] theorem pGe_i : pGe [dI i, dI j] = .d (dB (decide (i ≥ j))) := rfl
@[simp] theorem pInt_i : pInt [dI i] = .d (dI i) := rfl
@[simp] theorem pInt_b : pInt [dB a] = .d (dI (if a then 1 else 0)) := rfl
@[simp] theorem pLen_l : pLen [.lst ds] = .d (dI (ds.length : Nat)) := rfl
@[simp] theorem pLen_t : pLen [.tup ds] = .d (dI (ds.length : Nat)) := rfl
@[simp] theorem pLen_d : pLen [.dK kvs] = .d (dI (kvs.length : Nat)) := rfl
@[simp] theorem pLen_s {ns : List Int} : pLen [.scr ns] = .d (dI (ns.length : Nat)) := rfl
theorem pLen_z (h : z.length ≤ 100000) : pLen [dS z] = .d (dI (z.length : Nat)) := by
  show (match decide (z.length ≤ 100000) with | true => _ | false => _) = _
  rw [decide_eq_true h]
@[simp] theorem pList_l : pList [.lst ds] = .n (.lst ds) := rfl
@[simp] theorem pList_t : pList [.tup ds] = .n (.lst ds) := rfl
@[simp] theorem pListD_d : pListD [.dK kvs] = .n (.lst (kvs.map fun p => kD p.1)) := rfl
theorem pCat_l (h : ds.length + es.length ≤ 100000) : pCat [.lst ds, .lst es] = .n (.lst (ds ++ es)) := by
  show (match decide (ds.length + es.length ≤ 100000) with | true => _ | false => _) = _
  rw [decide_eq_true h]
theorem bools_map : ∀ bs : List Bool, bools (bs.map dB) = some bs
  | [] => rfl
  | b :: bs => by
    show (match bools (bs.map dB) with | some bs => some (b :: bs) | none => none) = _
    rw [bools_map bs]
@[simp] theorem pAll_b {bs : List Bool} : pAll [.lst (bs.map dB)] = .d (dB (bs.all id)) := by
  show (match bools (bs.map dB) with | some bs => _ | none => _) = _
  rw [bools_map]
@[simp] theorem pAny_b {bs : List Bool} : pAny [.lst (bs.map dB)] = .d (dB (bs.any id)) := by
  show (match bools (bs.map dB) with | some bs => _ | none => _) = _
  rw [bools_map]
theorem pAll_f {α : Type} {l : List α} {f : α → Bool} : pAll [.lst (l.map fun a => dB (f a))] = .d (dB (l.all f)) := by
  rw [show (l.map fun a => dB (f a)) = (l.map f).map dB by rw [List.map_map]; rfl, pAll_b, List.all_map]
  rfl
theorem pAny_f {α : Type} {l : List α} {f : α → Bool} : pAny [.lst (l.map fun a => dB (f a))] = .d (dB (l.any f)) := by
  rw [show (l.map fun a => dB (f a)) = (l.map f).map dB by rw [List.map_map]; rfl, pAny_b, List.any_map]
  rfl
theorem ints_map : ∀ bs : List Int, intsD (bs.map dI) = some bs
  | [] => rfl
  | b :: bs => by
    show (match intsD (bs.map dI) with | some bs => some (b :: bs) | none => none) = _
    rw [ints_map bs]
@[simp] theorem pSum_i {bs : List Int} : pSum [.lst (bs.map dI)] = .d (dI bs.sum) := by
  show (match intsD (bs.map dI) with | some bs => _ | none => _) = _
  rw [ints_map]
theorem texts_map : ∀ bs : List Str, texts (bs.map dS) = some bs
  | [] => rfl
  | b :: bs => by
    show (match texts (bs.map dS) with | some bs => some (b :: bs) | none => none) = _
    rw [texts_map bs]
theorem pSortS_s (h : xs.length < 64) : pSortS [dLs xs] = .n (.lst ((srt xs).map dS)) := by
  show (match texts (xs.map dS) with | some ms => (match decide (ms.length < 64) with | true => PR.n (.lst ((srt ms).map dS)) | false => .no) | none => .no) = _
  rw [texts_map]
  dsimp only
  rw [decide_eq_true h]
theorem keysS_of : ∀ {kvs : List (Key × Dat)} {zs : List Str}, kvs.map (·.1) = zs.map Sum.inr → keysS kvs = some zs
  | [], [], _ => rfl
  | (k, d) :: r, z :: zs, h => by
    rw [List.map_cons, List.map_cons] at h
    injection h with h1 h2
    obtain rfl : k = .inr z := h1
    show (match keysS r with | some zs => some (z :: zs) | none => none) = _
    rw [keysS_of h2]
theorem pSortD_s (hk : kvs.map (·.1) = xs.map Sum.inr) (h : xs.length < 64) : pSortD [.dK kvs] = .n (.lst ((srt xs).map dS)) := by
  show (match keysS kvs with | some ms => (match decide (ms.length < 64) with | true => PR.n (.lst ((srt ms).map dS)) | false => .no) | none => .no) = _
  rw [keysS_of hk]
  dsimp only
  rw [decide_eq_true h]
theorem pEq_of (h1 : okD d = true) (h2 : okD e = true) (h3 : dpD d ≤ 64) (h4 : dpD e ≤ 64) : pEqN neg [d, e] = .d (dB (neg ^^ deq d e)) := by
  show (match okD d && okD e && decide (dpD d ≤ 64) && decide (dpD e ≤ 64) with | true => _ | false => _) = _
  rw [h1, h2, decide_eq_true h3, decide_eq_true h4]
  cases neg with
  | true => show PR.d (dB (!deq d e)) = _; cases deq d e <;> rfl
  | false => show PR.d (dB (deq d e)) = _; cases deq d e <;> rfl
@[simp] theorem pEq_i : pEqN neg [dI i, dI j] = .d (dB (neg ^^ decide (i = j))) := by
  rw [pEq_of rfl rfl (Nat.zero_le _) (Nat.zero_le _), deq_i]
@[simp] theorem pEq_b : pEqN neg [dB a, dB b] = .d (dB (neg ^^ decide (a = b))) := by
  rw [pEq_of rfl rfl (Nat.zero_le _) (Nat.zero_le _), deq_b]
theorem pEq_ls (h1 : ∀ m ∈ xs, PyData.strOk m = true) (h2 : ∀ m ∈ ys, PyData.strOk m = true) : pEqN neg [dLs xs, dLs ys] = .d (dB (neg ^^ decide (xs = ys))) := by
  rw [pEq_of (ok_strs h1) (ok_strs h2) (by have := @dp_strs xs; omega) (by have := @dp_strs ys; omega), deq_strs]
theorem pEq_ls0 (h1 : ∀ m ∈ xs, PyData.strOk m = true) : pEqN neg [dLs xs, .lst []] = .d (dB (neg ^^ decide (xs = []))) := pEq_ls (ys := []) h1 (by simp)
theorem pMulS_i (h : 0 ≤ n) (h2 : n ≤ 10000) (h3 : z.length ≤ 1000) : pMulS [dS z, dI n] = .d (dS (Txt.mul z n)) := by
  show (match mulSB z n with | true => _ | false => _) = _
  rw [show mulSB z n = true by unfold mulSB; rw [decide_eq_true h, decide_eq_true h2, decide_eq_true h3]; rfl]
theorem pAddS_z (h : y.length + z.length ≤ 100000) : pAddS [dS y, dS z] = .d (dS (y ++ z)) := by
  show (match decide (y.length + z.length ≤ 100000) with | true => _ | false => _) = _
  rw [decide_eq_true h]
theorem pIxL_at (h : atI ds i = some d) : pIxL [.lst ds, dI i] = .d d := by
  show (match atI ds i with | some d => PR.d d | none => .no) = _
  rw [h]
theorem pIxL_s {ns : List Int} (h : atI ns i = some j) : pIxL [.scr ns, dI i] = .d (dI j) := by
  show (match atI ns i with | some d => PR.d (dI d) | none => .no) = _
  rw [h]
@[simp] theorem pIxL_0 : pIxL [.lst (d :: ds), dI 0] = .d d := by
  refine pIxL_at ?_
  have : atI (d :: ds) 0 = some d := by
    unfold atI ixN
    simp
  exact this
@[simp] theorem pIxL_1 : pIxL [.lst (d :: e :: ds), dI 1] = .d e := by
  refine pIxL_at ?_
  have : atI (d :: e :: ds) 1 = some e := by
    unfold atI ixN
    rw [if_pos (by decide), if_pos (by rw [List.length_cons, List.length_cons]; omega)]
    rfl
  exact this
@[simp] theorem ix20 : ixN 2 0 = some 0 := rfl
@[simp] theorem ix21 : ixN 2 1 = some 1 := rfl
theorem pIxS_at {c : Nat} (h : z.length ≤ 100000) (h2 : atI z.cps.toList i = some c) : pIxS [dS z, dI i] = .d (dS ⟨#[c]⟩) := by
  show (match decide (z.length ≤ 100000), atI z.cps.toList i with | true, some c => PR.d (dS ⟨#[c]⟩) | _, _ => .no) = _
  rw [decide_eq_true h, h2]
@[simp] theorem pIn_str : pInN neg [dS z, dLs xs] = .d (dB (neg ^^ decide (z ∈ xs))) := by
  show (match flatV (.str z) with | true => (match flats (xs.map dS) with | some us => PR.d (dB (match neg with | true => !inV (.str z) us | false => inV (.str z) us)) | none => .no) | false => .no) = _
  rw [show flatV (.str z) = true from rfl]
  dsimp only
  have h1 : ∀ xs : List Str, flats (xs.map dS) = some (xs.map .str) := by
    intro xs
    induction xs with
    | nil => rfl
    | cons x xs ih =>
      show (match flats (xs.map dS) with | some us => some (V.str x :: us) | none => none) = _
      rw [ih]
      rfl
  rw [h1]
  dsimp only
  have h2 : inV (.str z) (xs.map .str) = decide (z ∈ xs) := by
    unfold inV
    rw [List.any_map, Bool.eq_iff_iff, List.any_eq_true, decide_eq_true_eq]
    constructor
    · rintro ⟨w, hw, h⟩
      have : w = z := by simpa [eqV] using h
      rwa [← this]
    · intro h
      exact ⟨z, h, by simp [eqV]⟩
  rw [h2]
  cases neg <;> cases decide (z ∈ xs) <;> rfl
end

/-! ### calls that carry one cell -/
section
variable {g : DM} {cn : Str} {S T : Store} {i : Nat} {c c' : MCell} {ds es : List Dat} {a b d e : Dat} {x : Exn} {kvs : List (Key × Dat)}
/-- no references within -/
def flatC : MCell → Bool
  | .lst _ => true
  | .dK _ => true
  | .xd _ => true
  | _ => false
theorem fp1 (h : S[i]? = some c) : i < S.length := by
  rcases Nat.lt_or_ge i S.length with q | q
  · exact q
  · rw [List.getElem?_eq_none q] at h; cases h
theorem clos1 (h : S[i]? = some c) (hc : refsC c = []) : clos S 64 [i] [] = [i] := by
  show (match pos [] i with | some _ => clos S 63 [] [] | none => clos S 63 (refsC (S.getD i .gone) ++ []) ([] ++ [i])) = _
  rw [show pos [] i = none from rfl]
  dsimp only
  rw [List.getD_eq_getElem?_getD, h]
  show clos S 63 (refsC c ++ []) [i] = [i]
  rw [hc]
  rfl
theorem callAt1 {xs ys : List Val} (h : S[i]? = some c) (hx : mapVs (renV [i]) xs = some ys) (hm : mapC (renV [i]) c = some c) : callAt g xs S [i] = backD [i] S (g ys [c]) := by
  have hi := fp1 h
  unfold callAt
  rw [show fpOk S.length [i] = true by show (decide (i < S.length) && true && true) = true; rw [decide_eq_true hi]; rfl]
  dsimp only
  rw [hx, show subS S [i] = [c] by show [S.getD i .gone] = [c]; rw [List.getD_eq_getElem?_getD, h]; rfl]
  rw [show mapCs (renV [i]) [c] = some [c] by
    show (match mapC (renV [i]) c with | some c' => (match mapCs (renV [i]) [] with | some cs => some (c' :: cs) | none => none) | none => none) = _
    rw [hm]; rfl]
theorem ren1 : renV [i] (.r i) = some (.r 0) := by
  show (match pos [i] i with | some j => some (Val.r j) | none => none) = _
  rw [show pos [i] i = some 0 by simp [pos]]
theorem mapVs_cons {f : Val → Option Val} {v w : Val} {vs ws : List Val} (h : f v = some w) (t : mapVs f vs = some ws) : mapVs f (v :: vs) = some (w :: ws) := by
  show (match f v with | some y => (match mapVs f vs with | some ys => some (y :: ys) | none => none) | none => none) = _
  rw [h, t]
theorem flat_ref (h : flatC c = true) : refsC c = [] := by cases c <;> first | rfl | cases h
theorem flat_map {f : Val → Option Val} (h : flatC c = true) : mapC f c = some c := by cases c <;> first | rfl | cases h
theorem callD_r (h : S[i]? = some c) (hc : flatC c = true) : callD g [.r i] S = backD [i] S (g [.r 0] [c]) := by
  show callAt g _ S (clos S 64 [i] []) = _
  rw [clos1 h (flat_ref hc)]
  exact callAt1 h (mapVs_cons ren1 rfl) (flat_map hc)
theorem callD_rp (h : S[i]? = some c) (hc : flatC c = true) : callD g [.r i, .p a] S = backD [i] S (g [.r 0, .p a] [c]) := by
  show callAt g _ S (clos S 64 [i] []) = _
  rw [clos1 h (flat_ref hc)]
  exact callAt1 h (mapVs_cons ren1 (mapVs_cons rfl rfl)) (flat_map hc)
theorem callD_pr (h : S[i]? = some c) (hc : flatC c = true) : callD g [.p a, .r i] S = backD [i] S (g [.p a, .r 0] [c]) := by
  show callAt g _ S (clos S 64 [i] []) = _
  rw [clos1 h (flat_ref hc)]
  exact callAt1 h (mapVs_cons rfl (mapVs_cons ren1 rfl)) (flat_map hc)
theorem callD_rpp (h : S[i]? = some c) (hc : flatC c = true) : callD g [.r i, .p a, .p b] S = backD [i] S (g [.r 0, .p a, .p b] [c]) := by
  show callAt g _ S (clos S 64 [i] []) = _
  rw [clos1 h (flat_ref hc)]
  exact callAt1 h (mapVs_cons ren1 (mapVs_cons rfl (mapVs_cons rfl rfl))) (flat_map hc)
theorem callD_rppp (h : S[i]? = some c) (hc : flatC c = true) : callD g [.r i, .p a, .p b, .p d] S = backD [i] S (g [.r 0, .p a, .p b, .p d] [c]) := by
  show callAt g _ S (clos S 64 [i] []) = _
  rw [clos1 h (flat_ref hc)]
  exact callAt1 h (mapVs_cons ren1 (mapVs_cons rfl (mapVs_cons rfl (mapVs_cons rfl rfl)))) (flat_map hc)
theorem backS1 (hc : flatC c' = true) : backS [i] [c'] = some [c'] := by
  show (match mapC (backV [i]) c' with | some y => (match mapCs (backV [i]) [] with | some ys => some (y :: ys) | none => none) | none => none) = _
  rw [flat_map hc]
  rfl
theorem wr1 : wr (rest S [i]) [i] [c'] = S.set i c' := by
  show (S.set i .gone).set i c' = _
  rw [List.set_set]
theorem back1_ret (hc : flatC c' = true) : backD [i] S (.ret (.p d) [c']) = .v (.p d) (S.set i c') := by
  show (match (some (.p d) : Option Val), backS [i] [c'] with | some y, some cs => XR.v y (wr (rest S [i]) [i] cs) | _, _ => .bad) = _
  rw [backS1 hc, ← wr1]
theorem back1_lst (hc : flatC c' = true) : backD [i] S (.new (.lst ds) [c']) = .n (.lst ds) (S.set i c') := by
  show (match (some (.lst ds) : Option MCell), backS [i] [c'] with | some y, some cs => XR.n y (wr (rest S [i]) [i] cs) | _, _ => .bad) = _
  rw [backS1 hc, ← wr1]
theorem back1_dK (hc : flatC c' = true) : backD [i] S (.new (.dK kvs) [c']) = .n (.dK kvs) (S.set i c') := by
  show (match (some (.dK kvs) : Option MCell), backS [i] [c'] with | some y, some cs => XR.n y (wr (rest S [i]) [i] cs) | _, _ => .bad) = _
  rw [backS1 hc, ← wr1]
theorem back1_exc (hc : flatC c' = true) : backD [i] S (.exc x [c']) = .ex x (S.set i c') := by
  show (match backS [i] [c'] with | some cs => XR.ex x (wr (rest S [i]) [i] cs) | none => .bad) = _
  rw [backS1 hc, ← wr1]
theorem makeD_r1 {f : Str} (h : S[i]? = some c) (hc : flatC c = true) (hc' : flatC c' = true) (e : g [.r 1, .r 0] [c, .ins cn []] = .ret (.p dN) [c', .ins cn [(f, .p a)]]) : makeD cn g [.r i] S = .n (.ins cn [(f, .p a)]) (S.set i c') := by
  have hi := fp1 h
  show makeAt cn g _ S (clos S 64 [i] []) = _
  rw [clos1 h (flat_ref hc)]
  unfold makeAt
  rw [show fpOk S.length [i] = true by show (decide (i < S.length) && true && true) = true; rw [decide_eq_true hi]; rfl]
  dsimp only
  rw [show mapVs (renV [i]) [.r i] = some [.r 0] from mapVs_cons ren1 rfl, show subS S [i] = [c] by show [S.getD i .gone] = [c]; rw [List.getD_eq_getElem?_getD, h]; rfl]
  rw [show mapCs (renV [i]) [c] = some [c] by
    show (match mapC (renV [i]) c with | some c' => (match mapCs (renV [i]) [] with | some cs => some (c' :: cs) | none => none) | none => none) = _
    rw [flat_map hc]; rfl]
  dsimp only [List.length_cons, List.length_nil]
  rw [show g [.r (0 + 1), .r 0] ([c] ++ [.ins cn []]) = .ret (.p dN) [c', .ins cn [(f, .p a)]] from e]
  dsimp only [List.drop_succ_cons, List.drop_zero, List.take_succ_cons, List.take_zero]
  rw [backS1 hc', ← wr1]
  rfl
/-! the other answers of a call without cells -/
@[simp] theorem backD_ins1 {n f : Str} : backD [] S (.new (.ins n [(f, .p a)]) []) = .n (.ins n [(f, .p a)]) S := rfl
@[simp] theorem backD_ins2 {n f f2 : Str} : backD [] S (.new (.ins n [(f, .p a), (f2, .p b)]) []) = .n (.ins n [(f, .p a), (f2, .p b)]) S := rfl
/-! a def's end -/
theorem defM_app {N np : Nat} {body : MS} {xs : List Val} (h : xs.length = np) : defM N np body xs S = fin S.length (body (xs.map some ++ List.replicate (N - xs.length) none) S) := by
  unfold defM
  rw [decide_eq_true h]
section
variable {N : Nat} {body : MS} {x1 x2 x3 x4 : Val}
@[simp] theorem defM_0 : defM N 0 body [] S = fin S.length (body (List.replicate N none) S) := rfl
@[simp] theorem defM_1 : defM N 1 body [x1] S = fin S.length (body (some x1 :: List.replicate (N - 1) none) S) := rfl
@[simp] theorem defM_2 : defM N 2 body [x1, x2] S = fin S.length (body (some x1 :: some x2 :: List.replicate (N - 2) none) S) := rfl
@[simp] theorem defM_3 : defM N 3 body [x1, x2, x3] S = fin S.length (body (some x1 :: some x2 :: some x3 :: List.replicate (N - 3) none) S) := rfl
@[simp] theorem defM_4 : defM N 4 body [x1, x2, x3, x4] S = fin S.length (body (some x1 :: some x2 :: some x3 :: some x4 :: List.replicate (N - 4) none) S) := rfl
end
@[simp] theorem fin_nx {k : Nat} {Γ : MEnv} : fin k (.nx Γ S) = .ret (.p dN) (S.take k) := rfl
@[simp] theorem fin_rt {k : Nat} : fin k (.rt (.p d) S) = .ret (.p d) (S.take k) := rfl
@[simp] theorem fin_rn {k : Nat} : fin k (.rn c S) = .new c (S.take k) := rfl
@[simp] theorem fin_ex {k : Nat} {Γ : MEnv} : fin k (.ex x Γ S) = .exc x (S.take k) := rfl
end

/-! ### statements that write -/
section
variable {x y : Val} {S S1 : Store} {Γ : MEnv} {d e : Dat} {ds es : List Dat} {m ma mb mo mi mv : ME} {cn f : Str} {ex : Exn} {i k : Nat} {c : MCell} {mt : MT} {b : MS}
def setLF (Γ : MEnv) (S : Store) (k : Nat) (d : Dat) (i : Int) : Option MCell → Rs
  | some (.lst ds) => match ixN ds.length i with
    | some j => .nx Γ (S.set k (.lst (ds.set j d)))
    | none => .bad
  | _ => .bad
def setLK2 (Γ : MEnv) (d : Dat) (k : Nat) : XR → Rs
  | .v (.p (.v (.int i))) S3 => setLF Γ S3 k d i S3[k]?
  | _ => .bad
def setLK1 (Γ : MEnv) (mi : ME) (d : Dat) : XR → Rs
  | .v (.r k) S2 => setLK2 Γ d k (mi Γ S2)
  | _ => .bad
def setLK (Γ : MEnv) (mo mi : ME) : PX → Rs
  | .d d S1 => setLK1 Γ mi d (mo Γ S1)
  | .ex e S1 => .ex e Γ S1
  | .bad => .bad
@[simp] theorem setLK_d : setLK Γ mo mi (.d d S) = setLK1 Γ mi d (mo Γ S) := rfl
@[simp] theorem setLK_ex : setLK Γ mo mi (.ex ex S) = .ex ex Γ S := rfl
@[simp] theorem setLK1_r : setLK1 Γ mi d (.v (.r k) S) = setLK2 Γ d k (mi Γ S) := rfl
@[simp] theorem setLK2_i {i : Int} : setLK2 Γ d k (.v (.p (dI i)) S) = setLF Γ S k d i S[k]? := rfl
@[simp] theorem setL_app : setL mo mi mv Γ S = setLK Γ mo mi (mv Γ S).pure := by
  unfold setL setLK setLK1 setLK2 setLF
  rfl
def setLO (Γ : MEnv) (S : Store) (k : Nat) (ds : List Dat) (d : Dat) : Option Nat → Rs
  | some j => .nx Γ (S.set k (.lst (ds.set j d)))
  | none => .bad
@[simp] theorem setLF_lst {i : Int} : setLF Γ S k d i (some (.lst ds)) = setLO Γ S k ds d (ixN ds.length i) := by
  unfold setLF setLO
  rfl
@[simp] theorem setLO_some {j : Nat} : setLO Γ S k ds d (some j) = .nx Γ (S.set k (.lst (ds.set j d))) := rfl
def fldSF (cn f : Str) (y : Val) (Γ : MEnv) (S : Store) (k : Nat) : Option MCell → Rs
  | some (.ins c fs) => match decide (c = cn) && decide (fs.length ≤ 900) with
    | true => .nx Γ (S.set k (.ins c (putFV f y fs)))
    | false => .bad
  | _ => .bad
def fldSK1 (cn f : Str) (y : Val) (Γ : MEnv) : XR → Rs
  | .v (.r k) S2 => fldSF cn f y Γ S2 k S2[k]?
  | _ => .bad
def fldSK (cn f : Str) (mo : ME) (Γ : MEnv) : GX → Rs
  | .v y S1 => fldSK1 cn f y Γ (mo Γ S1)
  | .ex e S1 => .ex e Γ S1
  | .bad => .bad
@[simp] theorem fldS_app : fldS cn f mo mv Γ S = fldSK cn f mo Γ (mv Γ S).val := by
  unfold fldS fldSK fldSK1 fldSF
  rfl
@[simp] theorem fldSK_v : fldSK cn f mo Γ (.v y S) = fldSK1 cn f y Γ (mo Γ S) := rfl
@[simp] theorem fldSK_ex : fldSK cn f mo Γ (.ex ex S) = .ex ex Γ S := rfl
@[simp] theorem fldSK1_r : fldSK1 cn f y Γ (.v (.r k) S) = fldSF cn f y Γ S k S[k]? := rfl
theorem fldSF_ins {fs : List (Str × Val)} (h : fs.length ≤ 900) : fldSF cn f y Γ S k (some (.ins cn fs)) = .nx Γ (S.set k (.ins cn (putFV f y fs))) := by
  show (match decide (cn = cn) && decide (fs.length ≤ 900) with | true => _ | false => _) = _
  rw [decide_eq_true rfl, decide_eq_true h]
  rfl
def tryOnK (cs no : List Str) (suite : MS) : Rs → Rs
  | .ex x Γ1 S1 => match decide (x.cls ∈ cs) with
    | true => suite Γ1 (S1 ++ excS x)
    | false => match decide (x.cls ∈ no) with
      | true => .ex x Γ1 S1
      | false => .bad
  | r => r
theorem tryOn_app {m2 : MS} {cs no : List Str} : tryOn cs no b m2 Γ S = tryOnK cs no m2 (b Γ S) := by
  unfold tryOn tryOnK
  rfl
@[simp] theorem tryOnK_rt {m2 : MS} {cs no : List Str} : tryOnK cs no m2 (.rt x S) = .rt x S := rfl
@[simp] theorem tryOnK_rn {m2 : MS} {cs no : List Str} : tryOnK cs no m2 (.rn c S) = .rn c S := rfl
@[simp] theorem tryOnK_nx {m2 : MS} {cs no : List Str} : tryOnK cs no m2 (.nx Γ S) = .nx Γ S := rfl
theorem tryOnK_ex {m2 : MS} {cs no : List Str} (h : ex.cls ∈ cs) : tryOnK cs no m2 (.ex ex Γ S) = m2 Γ (S ++ excS ex) := by
  show (match decide (ex.cls ∈ cs) with | true => _ | false => _) = _
  rw [decide_eq_true h]
def chIK3 (g : Int → Int → Bool) (j : Int) (z : Val) (S : Store) : XR := match z with
  | .p (.v (.int k)) => .v (.p (dB (g j k))) S
  | _ => .bad
@[simp] theorem chIK3_i {g : Int → Int → Bool} {j k : Int} : chIK3 g j (.p (dI k)) S = .v (.p (dB (g j k))) S := rfl
def chIF (g : Int → Int → Bool) (mc : ME) (Γ : MEnv) (j : Int) (S : Store) : Bool → XR
  | true => (mc Γ S).get (chIK3 g j)
  | false => .v (.p (dB false)) S
@[simp] theorem chIF_t {g : Int → Int → Bool} {mc : ME} {j : Int} : chIF g mc Γ j S true = (mc Γ S).get (chIK3 g j) := rfl
@[simp] theorem chIF_f {g : Int → Int → Bool} {mc : ME} {j : Int} : chIF g mc Γ j S false = .v (.p (dB false)) S := rfl
def chIK2 (f g : Int → Int → Bool) (mc : ME) (Γ : MEnv) (x y : Val) (S : Store) : XR := match x, y with
  | .p (.v (.int i)), .p (.v (.int j)) => chIF g mc Γ j S (f i j)
  | _, _ => .bad
@[simp] theorem chIK2_i {f g : Int → Int → Bool} {mc : ME} {i j : Int} : chIK2 f g mc Γ (.p (dI i)) (.p (dI j)) S = chIF g mc Γ j S (f i j) := rfl
def chIK1 (f g : Int → Int → Bool) (mb mc : ME) (Γ : MEnv) (x : Val) (S : Store) : XR := (mb Γ S).get (chIK2 f g mc Γ x)
@[simp] theorem chIK1_app {f g : Int → Int → Bool} {mc : ME} : chIK1 f g mb mc Γ x S = (mb Γ S).get (chIK2 f g mc Γ x) := rfl
@[simp] theorem chI_app {f g : Int → Int → Bool} {mc : ME} : chI f g ma mb mc Γ S = (ma Γ S).get (chIK1 f g mb mc Γ) := by
  unfold chI
  congr 1
/-! kinds -/
@[simp] theorem pIsi_ss {z : Str} : pIsi [dS z, .v (.ty "str")] = .d (dB true) := rfl
@[simp] theorem pIsi_ll : pIsi [.lst ds, .v (.ty "list")] = .d (dB true) := rfl
@[simp] theorem pIsi_dd {kvs : List (Key × Dat)} : pIsi [.dK kvs, .v (.ty "dict")] = .d (dB true) := rfl
@[simp] theorem pIsi_ii {n : Int} : pIsi [dI n, .v (.ty "int")] = .d (dB true) := rfl
@[simp] theorem pIsi_bi {q : Bool} : pIsi [dB q, .v (.ty "int")] = .d (dB true) := rfl
@[simp] theorem pIsi_bb {q : Bool} : pIsi [dB q, .v (.ty "bool")] = .d (dB true) := rfl
@[simp] theorem pIsi_ib {n : Int} : pIsi [dI n, .v (.ty "bool")] = .d (dB false) := rfl
theorem pIsi_own {c D : Str} {fs : List (Str × Dat)} (h1 : c ∈ CLS) (h2 : D ∈ CLS) : pIsi [.ins c fs, .glb D] = .d (dB (isSub c D)) := by
  show (match some (Kd.own c), decide (D ∈ CLS) with | some (.bt _), true => PR.d (dB false) | some (.own c), true => (match decide (c ∈ CLS) with | true => PR.d (dB (isSub c D)) | false => .no) | _, _ => .no) = _
  rw [decide_eq_true h2]
  dsimp only
  rw [decide_eq_true h1]
theorem pInS_c {c : Nat} {z : Str} : pInS [dS ⟨#[c]⟩, dS z] = .d (dB (decide (c ∈ z.cps.toList))) := rfl
end

/-! ### loops and comprehensions that move cells -/
section
variable {S S1 : Store} {Γ : MEnv} {d e : Dat} {ds es : List Dat} {me : ME} {mg : MG} {wp vs : List Nat} {b : MS} {I : Store → Prop} {E : Dat → Prop}
theorem forL_inv (hb : ∀ d ∈ ds, ∀ S, I S → ∃ Γ1 Γ2 S2, mg d Γ = some Γ1 ∧ b Γ1 S = .nx Γ2 S2 ∧ wipeE Γ2 wp = Γ ∧ I S2) (h0 : I S) : ∃ S2, forL mg wp b ds Γ S = .nx Γ S2 ∧ I S2 := by
  induction ds generalizing S with
  | nil => exact ⟨S, rfl, h0⟩
  | cons d ds ih =>
    obtain ⟨Γ1, Γ2, S2, h1, h2, h3, h4⟩ := hb d List.mem_cons_self S h0
    rw [forL_cons, h1, forO_some, h2, turn_nx, h3]
    exact ih (fun e he => hb e (List.mem_cons_of_mem _ he)) h4
/-- the turn went on -/
def NxI (wp : List Nat) (Γ : MEnv) (I : Store → Prop) (r : Rs) : Prop := ∃ Γ2 S2, r = .nx Γ2 S2 ∧ wipeE Γ2 wp = Γ ∧ I S2
theorem forL_nx (hb : ∀ d ∈ ds, ∀ S, I S → ∃ Γ1, mg d Γ = some Γ1 ∧ NxI wp Γ I (b Γ1 S)) (h0 : I S) : ∃ S2, forL mg wp b ds Γ S = .nx Γ S2 ∧ I S2 :=
  forL_inv (fun d hd S h => by
    obtain ⟨Γ1, h1, Γ2, S2, h2, h3, h4⟩ := hb d hd S h
    exact ⟨Γ1, Γ2, S2, h1, h2, h3, h4⟩) h0
theorem lcL_inv {α : Type} {xs : List α} {R : α → Dat} {E : Dat → Prop} (hb : ∀ x ∈ xs, ∀ S, I S → ∃ Γ1 d S2, mg (R x) (wipeE Γ vs) = some Γ1 ∧ (me Γ1 S).pure = .d d S2 ∧ E d ∧ I S2) (h0 : I S) : ∃ es S2, lcL mg vs yesT me Γ (xs.map R) S = some (es, S2) ∧ es.length = xs.length ∧ (∀ e ∈ es, E e) ∧ I S2 := by
  induction xs generalizing S with
  | nil => exact ⟨[], S, rfl, rfl, (fun _ h => (List.not_mem_nil h).elim), h0⟩
  | cons x xs ih =>
    obtain ⟨Γ1, d, S2, h1, h2, h3, h4⟩ := hb x List.mem_cons_self S h0
    obtain ⟨es, S3, h5, h6, h7, h8⟩ := ih (fun e he => hb e (List.mem_cons_of_mem _ he)) h4
    refine ⟨d :: es, S3, ?_, by rw [List.length_cons, h6, List.length_cons], fun e he => ?_, h8⟩
    · rw [List.map_cons]
      simp only [lcL]
      rw [h1]
      dsimp only [yesT]
      rw [h2]
      dsimp only
      rw [h5]
    · rcases List.mem_cons.1 he with rfl | he
      · exact h3
      · exact h7 e he
end

/-! ### looks at lists that change later; suites of exceptions -/
section
variable {x y : Val} {S S1 : Store} {Γ : MEnv} {d e : Dat} {ds es : List Dat} {m ma mb mo mi mv : ME} {ms : List ME} {cn : Str} {ex : Exn} {i k : Nat} {c : MCell} {b : MS}
def viewR (m : ME) (S : Store) : XR → XR
  | .n (.lst es) S2 => match S2.all isGone, valsD es with
    | true, some _ => .n (.lst es) S
    | _, _ => .bad
  | .v (.p (.v u)) S2 => match S2.all isGone with
    | true => .v (.p (.v u)) S
    | false => .bad
  | _ => .bad
def viewC (i : Nat) (m : ME) (Γ : MEnv) (S : Store) : Option MCell → XR
  | some (.lst ds) => viewR m S (m (Γ.set i (some (.p (.lst ds)))) (S.map fun _ => .gone))
  | _ => m Γ S
def viewF (i : Nat) (m : ME) (Γ : MEnv) (S : Store) : Option (Option Val) → XR
  | some (some (.r k)) => viewC i m Γ S S[k]?
  | _ => m Γ S
@[simp] theorem viewM_app : viewM i m Γ S = viewF i m Γ S Γ[i]? := by
  unfold viewM viewF viewC viewR
  rfl
@[simp] theorem viewF_p : viewF i m Γ S (some (some (.p d))) = m Γ S := rfl
@[simp] theorem viewF_r : viewF i m Γ S (some (some (.r k))) = viewC i m Γ S S[k]? := rfl
@[simp] theorem viewC_lst : viewC i m Γ S (some (.lst ds)) = viewR m S (m (Γ.set i (some (.p (.lst ds)))) (S.map fun _ => .gone)) := rfl
theorem valsD_map : ∀ us : List V, valsD (us.map Dat.v) = some us
  | [] => rfl
  | u :: us => by
    show (match valsD (us.map Dat.v) with | some us => some (u :: us) | none => none) = _
    rw [valsD_map us]
theorem goneAll (S : Store) : (S.map fun _ => MCell.gone).all isGone = true := by
  rw [List.all_map, List.all_eq_true]
  exact fun _ _ => rfl
theorem viewR_lst {us : List V} : viewR m S (.n (.lst (us.map Dat.v)) (S1.map fun _ => .gone)) = .n (.lst (us.map Dat.v)) S := by
  show (match (S1.map fun _ => MCell.gone).all isGone, valsD (us.map Dat.v) with | true, some _ => XR.n (.lst (us.map Dat.v)) S | _, _ => .bad) = _
  rw [goneAll, valsD_map]
theorem viewR_strs {xs : List Str} : viewR m S (.n (.lst (xs.map dS)) (S1.map fun _ => .gone)) = .n (.lst (xs.map dS)) S := by
  have := viewR_lst (m := m) (S := S) (S1 := S1) (us := xs.map V.str)
  rwa [List.map_map] at this
theorem viewR_bls {α : Type} {xs : List α} {f : α → Bool} : viewR m S (.n (.lst (xs.map fun x => dB (f x))) (S1.map fun _ => .gone)) = .n (.lst (xs.map fun x => dB (f x))) S := by
  have := viewR_lst (m := m) (S := S) (S1 := S1) (us := xs.map fun x => V.bl (f x))
  rwa [List.map_map] at this
@[simp] theorem isGone_gone : isGone .gone = true := rfl
theorem viewR_st {xs : List Str} (h : S1.all isGone = true) : viewR m S (.n (.lst (xs.map dS)) S1) = .n (.lst (xs.map dS)) S := by
  show (match S1.all isGone, valsD (xs.map dS) with | true, some _ => XR.n (.lst (xs.map dS)) S | _, _ => .bad) = _
  rw [h, show valsD (xs.map dS) = some (xs.map V.str) by rw [← valsD_map, List.map_map]; rfl]
theorem viewR_bl {α : Type} {xs : List α} {f : α → Bool} (h : S1.all isGone = true) : viewR m S (.n (.lst (xs.map fun x => dB (f x))) S1) = .n (.lst (xs.map fun x => dB (f x))) S := by
  show (match S1.all isGone, valsD (xs.map fun x => dB (f x)) with | true, some _ => XR.n (.lst (xs.map fun x => dB (f x))) S | _, _ => .bad) = _
  rw [h, show valsD (xs.map fun x => dB (f x)) = some (xs.map fun x => V.bl (f x)) by rw [← valsD_map, List.map_map]; rfl]
/-! a list's methods -/
def mutLF2 (S : Store) (k : Nat) : Option (Dat × List Dat) → XR
  | some (d, ds') => .v (.p d) (S.set k (.lst ds'))
  | none => .bad
@[simp] theorem mutLF2_some : mutLF2 S k (some (d, ds)) = .v (.p d) (S.set k (.lst ds)) := rfl
def mutLF1 (f : List Dat → List Dat → Option (Dat × List Dat)) (es : List Dat) (S : Store) (k : Nat) : Option MCell → XR
  | some (.lst ds) => mutLF2 S k (f ds es)
  | _ => .bad
@[simp] theorem mutLF1_lst {f : List Dat → List Dat → Option (Dat × List Dat)} : mutLF1 f es S k (some (.lst ds)) = mutLF2 S k (f ds es) := rfl
def mutLK2 (f : List Dat → List Dat → Option (Dat × List Dat)) (k : Nat) : AP → XR
  | .ok es S2 => mutLF1 f es S2 k S2[k]?
  | _ => .bad
@[simp] theorem mutLK2_ok {f : List Dat → List Dat → Option (Dat × List Dat)} : mutLK2 f k (.ok es S) = mutLF1 f es S k S[k]? := rfl
def mutLK1 (f : List Dat → List Dat → Option (Dat × List Dat)) (k : Nat) (r : AP) : Option MCell → XR
  | some (.lst _) => mutLK2 f k r
  | _ => .bad
@[simp] theorem mutLK1_lst {f : List Dat → List Dat → Option (Dat × List Dat)} {r : AP} : mutLK1 f k r (some (.lst ds)) = mutLK2 f k r := rfl
def mutLK (f : List Dat → List Dat → Option (Dat × List Dat)) (ms : List ME) (Γ : MEnv) : XR → XR
  | .v (.r k) S1 => mutLK1 f k (argsP ms Γ S1) S1[k]?
  | _ => .bad
@[simp] theorem mutLK_r {f : List Dat → List Dat → Option (Dat × List Dat)} : mutLK f ms Γ (.v (.r k) S) = mutLK1 f k (argsP ms Γ S) S[k]? := rfl
@[simp] theorem mutL_app {f : List Dat → List Dat → Option (Dat × List Dat)} : mutL f mo ms Γ S = mutLK f ms Γ (mo Γ S) := by
  unfold mutL mutLK mutLK1 mutLK2 mutLF1 mutLF2
  rfl
theorem appP_1 (h : ds.length < 100000) : appP ds [d] = some (dN, ds ++ [d]) := by
  unfold appP
  rw [decide_eq_true h]
def mutNK3 (Γ : MEnv) (S : Store) (k : Nat) : Option (Dat × List Dat) → Rs
  | some (_, ds') => .nx Γ (S.set k (.lst ds'))
  | none => .bad
@[simp] theorem mutNK3_some : mutNK3 Γ S k (some (d, ds)) = .nx Γ (S.set k (.lst ds)) := rfl
def mutNK2 (f : List Dat → List Dat → Option (Dat × List Dat)) (es : List Dat) (Γ : MEnv) (S : Store) (k : Nat) : Option MCell → Rs
  | some (.lst ds) => mutNK3 Γ S k (f ds es)
  | _ => .bad
@[simp] theorem mutNK2_lst {f : List Dat → List Dat → Option (Dat × List Dat)} : mutNK2 f es Γ S k (some (.lst ds)) = mutNK3 Γ S k (f ds es) := rfl
def mutNK1 (f : List Dat → List Dat → Option (Dat × List Dat)) (Γ : MEnv) (k : Nat) : AP → Rs
  | .ok es S2 => mutNK2 f es Γ S2 k S2[k]?
  | _ => .bad
@[simp] theorem mutNK1_ok {f : List Dat → List Dat → Option (Dat × List Dat)} : mutNK1 f Γ k (.ok es S) = mutNK2 f es Γ S k S[k]? := rfl
def mutNK (f : List Dat → List Dat → Option (Dat × List Dat)) (ms : List ME) (Γ : MEnv) : XR → Rs
  | .n (.lst ds0) S1 => mutNK1 f Γ S1.length (argsP ms Γ (S1 ++ [.lst ds0]))
  | _ => .bad
@[simp] theorem mutNK_n {f : List Dat → List Dat → Option (Dat × List Dat)} : mutNK f ms Γ (.n (.lst ds) S) = mutNK1 f Γ S.length (argsP ms Γ (S ++ [.lst ds])) := rfl
@[simp] theorem mutNS_app {f : List Dat → List Dat → Option (Dat × List Dat)} : mutNS f mo ms Γ S = mutNK f ms Γ (mo Γ S) := by
  unfold mutNS mutNK mutNK1 mutNK2 mutNK3
  rfl
@[simp] theorem pIsB_b {p q : Bool} {neg : Bool} : pIsB neg [dB p, dB q] = .d (dB (neg ^^ decide (p = q))) := by
  cases neg <;> cases p <;> cases q <;> rfl
@[simp] theorem dnewM_app : dnewM Γ S = .n (.dK []) S := rfl
end
end Mr
end

section
set_option maxRecDepth 100000
set_option maxHeartbeats 4000000
namespace Mr
open PySem L2 Dm
section
variable {x y : Val} {S S1 : Store} {Γ : MEnv} {d e : Dat} {ds es : List Dat} {kvs : List (Key × Dat)} {m ma mb mc mo mi mv mk md : ME} {ms : List ME} {n cn f : Str} {ex : Exn} {i j k : Nat} {c : MCell} {b : MS} {neg : Bool}
/-! ### dicts -/
@[simp] theorem keyOf_s {z : Str} : keyOf (dS z) = some (.inr z) := rfl
@[simp] theorem keyOf_i {z : Int} : keyOf (dI z) = some (.inl z) := rfl
def dgO (S : Store) : Option Dat → XR
  | some d => .v (.p d) S
  | none => .bad
@[simp] theorem dgO_some : dgO S (some d) = .v (.p d) S := rfl
def dgK (S : Store) (kvs : List (Key × Dat)) : Option Key → XR
  | some k => dgO S (lookK kvs k)
  | none => .bad
@[simp] theorem dgK_some {q : Key} : dgK S kvs (some q) = dgO S (lookK kvs q) := rfl
def dgF (S : Store) : Option Dat → Option Dat → XR
  | some (.dK kvs), some kd => dgK S kvs (keyOf kd)
  | _, _ => .bad
@[simp] theorem dgF_some : dgF S (some (.dK kvs)) (some d) = dgK S kvs (keyOf d) := rfl
def dgK2 (x y : Val) (S : Store) : XR := dgF S (rdS S x) (rdS S y)
@[simp] theorem dgK2_app : dgK2 x y S = dgF S (rdS S x) (rdS S y) := rfl
def dgK1 (mb : ME) (Γ : MEnv) (x : Val) (S : Store) : XR := (mb Γ S).get (dgK2 x)
@[simp] theorem dgK1_app : dgK1 mb Γ x S = (mb Γ S).get (dgK2 x) := rfl
@[simp] theorem dgetM_app : dgetM ma mb Γ S = (ma Γ S).get (dgK1 mb Γ) := rfl
def diF (neg : Bool) (S : Store) : Option Dat → Option Dat → XR
  | some (.dK kvs), some kd => match keyOf kd with
    | some k => .v (.p (dB (if neg then !(lookK kvs k).isSome else (lookK kvs k).isSome))) S
    | none => .bad
  | _, _ => .bad
@[simp] theorem diF_s {z : Str} : diF neg S (some (.dK kvs)) (some (dS z)) = .v (.p (dB (neg ^^ (lookK kvs (.inr z)).isSome))) S := by
  cases neg <;> simp [diF]
@[simp] theorem diF_i {z : Int} : diF neg S (some (.dK kvs)) (some (dI z)) = .v (.p (dB (neg ^^ (lookK kvs (.inl z)).isSome))) S := by
  cases neg <;> simp [diF]
def diK2 (neg : Bool) (y x : Val) (S : Store) : XR := diF neg S (rdS S x) (rdS S y)
@[simp] theorem diK2_app : diK2 neg y x S = diF neg S (rdS S x) (rdS S y) := rfl
def diK1 (neg : Bool) (md : ME) (Γ : MEnv) (y : Val) (S : Store) : XR := (md Γ S).get (diK2 neg y)
@[simp] theorem diK1_app : diK1 neg md Γ y S = (md Γ S).get (diK2 neg y) := rfl
@[simp] theorem dinM_app : dinM neg mk md Γ S = (mk Γ S).get (diK1 neg md Γ) := rfl
def lvF (S : Store) : Option Dat → XR
  | some (.dK kvs) => .n (.lst (kvs.map (·.2))) S
  | _ => .bad
@[simp] theorem lvF_dK : lvF S (some (.dK kvs)) = .n (.lst (kvs.map (·.2))) S := rfl
def lvK (x : Val) (S : Store) : XR := lvF S (rdS S x)
@[simp] theorem lvK_app : lvK x S = lvF S (rdS S x) := rfl
@[simp] theorem listVM_app : listVM m Γ S = (m Γ S).get lvK := rfl
def sdF (Γ : MEnv) (S : Store) (k : Nat) (d : Dat) (q : Key) : Option MCell → Rs
  | some (.dK kvs) => match decide (kvs.length < 100000) with
    | true => .nx Γ (S.set k (.dK (putKD kvs q d)))
    | false => .bad
  | _ => .bad
theorem sdF_dK {q : Key} (h : kvs.length < 100000) : sdF Γ S k d q (some (.dK kvs)) = .nx Γ (S.set k (.dK (putKD kvs q d))) := by
  show (match decide (kvs.length < 100000) with | true => _ | false => _) = _
  rw [decide_eq_true h]
def sdO (Γ : MEnv) (S : Store) (k : Nat) (d : Dat) : Option Key → Rs
  | some q => sdF Γ S k d q S[k]?
  | none => .bad
@[simp] theorem sdO_some {q : Key} : sdO Γ S k d (some q) = sdF Γ S k d q S[k]? := rfl
def sdK2 (Γ : MEnv) (d : Dat) (k : Nat) : XR → Rs
  | .v (.p y) S3 => sdO Γ S3 k d (keyOf y)
  | _ => .bad
@[simp] theorem sdK2_v : sdK2 Γ d k (.v (.p e) S) = sdO Γ S k d (keyOf e) := rfl
def sdK1 (Γ : MEnv) (mi : ME) (d : Dat) : XR → Rs
  | .v (.r k) S2 => sdK2 Γ d k (mi Γ S2)
  | _ => .bad
@[simp] theorem sdK1_r : sdK1 Γ mi d (.v (.r k) S) = sdK2 Γ d k (mi Γ S) := rfl
def sdK (Γ : MEnv) (mo mi : ME) : PX → Rs
  | .d d S1 => sdK1 Γ mi d (mo Γ S1)
  | .ex e S1 => .ex e Γ S1
  | .bad => .bad
@[simp] theorem sdK_d : sdK Γ mo mi (.d d S) = sdK1 Γ mi d (mo Γ S) := rfl
@[simp] theorem setD_app : setD mo mi mv Γ S = sdK Γ mo mi (mv Γ S).pure := by
  unfold setD
  cases (mv Γ S).pure with
  | d d S1 =>
    dsimp only [sdK]
    cases mo Γ S1 with
    | v x S2 => cases x with
      | r k =>
        dsimp only [sdK1]
        cases mi Γ S2 with
        | v y S3 => cases y with
          | p y =>
            dsimp only [sdK2]
            cases keyOf y with
            | none => rfl
            | some q => dsimp only [sdO]; cases S3[k]? with
              | none => rfl
              | some c => cases c <;> rfl
          | r j => rfl
        | _ => rfl
      | p d => rfl
    | _ => rfl
  | _ => rfl
/-! ### methods that look -/
def bmO (f : List Dat → List Dat → PR) (S : Store) : Option Dat → Option (List Dat) → XR
  | some (.lst ds), some es => match f ds es with
    | .d d => .v (.p d) S
    | _ => .bad
  | _, _ => .bad
def bmP (S : Store) : PR → XR
  | .d d => .v (.p d) S
  | _ => .bad
@[simp] theorem bmP_d : bmP S (.d d) = .v (.p d) S := rfl
@[simp] theorem bmO_some {f : List Dat → List Dat → PR} : bmO f S (some (.lst ds)) (some es) = bmP S (f ds es) := by
  show (match f ds es with | .d d => XR.v (.p d) S | _ => .bad) = _
  cases f ds es <;> rfl
def bmK3 (f : List Dat → List Dat → PR) (x : Val) (xs : List Val) (S : Store) : XR := bmO f S (rdS S x) (rdSs S xs)
@[simp] theorem bmK3_app {f : List Dat → List Dat → PR} {xs : List Val} : bmK3 f x xs S = bmO f S (rdS S x) (rdSs S xs) := rfl
def bmK2 (f : List Dat → List Dat → PR) (x : Val) (ms : List ME) (Γ : MEnv) (S : Store) : Option Dat → XR
  | some (.lst _) => (argsM ms Γ S).get (bmK3 f x)
  | _ => .bad
@[simp] theorem bmK2_lst {f : List Dat → List Dat → PR} : bmK2 f x ms Γ S (some (.lst ds)) = (argsM ms Γ S).get (bmK3 f x) := rfl
def bmK (f : List Dat → List Dat → PR) (ms : List ME) (Γ : MEnv) (x : Val) (S : Store) : XR := bmK2 f x ms Γ S (rdS S x)
@[simp] theorem bmK_app {f : List Dat → List Dat → PR} : bmK f ms Γ x S = bmK2 f x ms Γ S (rdS S x) := rfl
@[simp] theorem bmR_app {f : List Dat → List Dat → PR} : bmR f mo ms Γ S = (mo Γ S).get (bmK f ms Γ) := rfl
/-! ### numbers, lists -/
theorem pSortI_i {is : List Int} (h : is.length < 64) : pSortI [.lst (is.map dI)] = .n (.lst ((srtI is).map dI)) := by
  unfold pSortI
  dsimp only
  rw [ints_map]
  dsimp only
  rw [decide_eq_true h]
theorem remP_s {xs : List Str} {z : Str} {j : Nat} (h : xs.idxOf? z = some j) : remP (xs.map dS) [dS z] = some (dN, (xs.eraseIdx j).map dS) := by
  unfold remP
  dsimp only
  rw [texts_map]
  dsimp only
  rw [h]
theorem remP_mem {xs : List Str} {z : Str} (h : z ∈ xs) (hn : xs.Nodup) : remP (xs.map dS) [dS z] = some (dN, (xs.filter fun x => !decide (x = z)).map dS) := by
  have h1 := List.erase_eq_eraseIdx xs z
  cases e : xs.idxOf? z with
  | none => exact absurd h (List.idxOf?_eq_none_iff.1 e)
  | some j =>
    rw [e] at h1
    dsimp only at h1
    rw [remP_s e, ← h1, hn.erase_eq_filter]
    congr 3
theorem atI_nat {α : Type} {xs : List α} {k : Nat} : atI xs (k : Int) = xs[k]? := by
  unfold atI ixN
  rw [if_pos (by omega)]
  by_cases h : k < xs.length
  · rw [if_pos (by omega)]; rfl
  · rw [if_neg (by omega), List.getElem?_eq_none (by omega)]; rfl
theorem atI_last {α : Type} {xs : List α} : atI xs (-1) = xs.getLast? := by
  unfold atI ixN
  rw [if_neg (by omega)]
  cases xs with
  | nil => rfl
  | cons a l =>
    rw [if_pos (by simp; omega)]
    show (a :: l)[((-1 : Int) + ((a :: l).length : Nat)).toNat]? = _
    rw [List.getLast?_eq_getElem?]
    congr 1
    simp
    omega
@[simp] theorem neverM_app : neverM Γ S = .bad := rfl
/-! ### loops that count -/
variable {mg : MG} {wp vs : List Nat}
theorem forL_ix {I : Nat → Store → Prop} : ∀ {ds : List Dat} {S : Store} {j0 : Nat} (hb : ∀ j d, ds[j]? = some d → ∀ S, I (j0 + j) S → ∃ Γ1, mg d Γ = some Γ1 ∧ NxI wp Γ (I (j0 + j + 1)) (b Γ1 S)) (h0 : I j0 S), ∃ S2, forL mg wp b ds Γ S = .nx Γ S2 ∧ I (j0 + ds.length) S2
  | [], S, j0, hb, h0 => ⟨S, rfl, h0⟩
  | d :: ds, S, j0, hb, h0 => by
    obtain ⟨Γ1, h1, Γ2, S2, h2, h3, h4⟩ := hb 0 d rfl S h0
    obtain ⟨S3, h5, h6⟩ := forL_ix (ds := ds) (j0 := j0 + 1) (I := I) (fun j d hj S hI => by
      have := hb (j + 1) d hj S (by rw [show j0 + (j + 1) = j0 + 1 + j by omega]; exact hI)
      rw [show j0 + (j + 1) + 1 = j0 + 1 + j + 1 by omega] at this
      exact this) (S := S2) h4
    refine ⟨S3, ?_, by rw [List.length_cons, show j0 + (ds.length + 1) = j0 + 1 + ds.length by omega]; exact h6⟩
    rw [forL_cons, h1, forO_some, h2, turn_nx, h3, h5]
/-- a loop that only computes: the environment is told by a state -/
theorem forL_st {σ : Type} {Γs : σ → MEnv} {Ss : σ → Store} {step : σ → Dat → σ} : ∀ {ds : List Dat} {s : σ} (hb : ∀ d ∈ ds, ∀ s, ∃ Γ1, mg d (Γs s) = some Γ1 ∧ ∃ Γ2, b Γ1 (Ss s) = .nx Γ2 (Ss (step s d)) ∧ wipeE Γ2 wp = Γs (step s d)), forL mg wp b ds (Γs s) (Ss s) = .nx (Γs (ds.foldl step s)) (Ss (ds.foldl step s))
  | [], s, hb => rfl
  | d :: ds, s, hb => by
    obtain ⟨Γ1, h1, Γ2, h2, h3⟩ := hb d List.mem_cons_self s
    rw [forL_cons, h1, forO_some, h2, turn_nx, h3, List.foldl_cons]
    exact forL_st fun d hd s => hb d (List.mem_cons_of_mem _ hd) s
/-- .. with a promise about the states that are met, by the items -/
theorem forL_sti {α σ : Type} {R : α → Dat} {Γs : σ → MEnv} {Ss : σ → Store} {step : σ → α → σ} {I : List α → σ → Prop} : ∀ {xs : List α} {s : σ} (hb : ∀ x xs s, I (x :: xs) s → I xs (step s x) ∧ ∃ Γ1, mg (R x) (Γs s) = some Γ1 ∧ ∃ Γ2, b Γ1 (Ss s) = .nx Γ2 (Ss (step s x)) ∧ wipeE Γ2 wp = Γs (step s x)) (h0 : I xs s),
    forL mg wp b (xs.map R) (Γs s) (Ss s) = .nx (Γs (xs.foldl step s)) (Ss (xs.foldl step s)) ∧ I [] (xs.foldl step s)
  | [], s, hb, h0 => ⟨rfl, h0⟩
  | x :: xs, s, hb, h0 => by
    obtain ⟨hI, Γ1, h1, Γ2, h2, h3⟩ := hb x xs s h0
    rw [List.map_cons, forL_cons, h1, forO_some, h2, turn_nx, h3, List.foldl_cons]
    exact forL_sti hb hI
end
/-! ### calls that carry an object of the package -/
section
variable {g : DM} {cn : Str} {S T : Store} {i : Nat} {c c' : MCell} {ds es : List Dat} {a b d e : Dat} {x : Exn} {kvs : List (Key × Dat)}
def pureC : MCell → Bool
  | .lst _ => true
  | .dK _ => true
  | .xd _ => true
  | .ins _ fs => (pureFs fs).isSome
  | .gone => false
theorem pureFs_refs : ∀ {fs : List (Str × Val)}, (pureFs fs).isSome = true → refsFs fs = []
  | [], _ => rfl
  | (f, .p d) :: r, h => by
    show refsV (.p d) ++ refsFs r = []
    rw [pureFs_refs (fs := r)]
    · rfl
    · rw [pureFs_cons] at h
      cases e : pureFs r with
      | none => rw [e] at h; cases h
      | some _ => rfl
  | (f, .r k) :: r, h => by cases h
theorem pureFs_map {f : Val → Option Val} (hf : ∀ d, f (.p d) = some (.p d)) : ∀ {fs : List (Str × Val)}, (pureFs fs).isSome = true → mapFs f fs = some fs
  | [], _ => rfl
  | (n, .p d) :: r, h => by
    show (match f (.p d) with | some y => (match mapFs f r with | some ys => some ((n, y) :: ys) | none => none) | none => none) = _
    rw [hf, pureFs_map hf (fs := r)]
    rw [pureFs_cons] at h
    cases e : pureFs r with
    | none => rw [e] at h; cases h
    | some _ => rfl
  | (f, .r k) :: r, h => by cases h
theorem pureC_ref (h : pureC c = true) : refsC c = [] := by
  cases c with
  | ins n fs => exact pureFs_refs h
  | gone => cases h
  | _ => rfl
theorem pureC_map {f : Val → Option Val} (hf : ∀ d, f (.p d) = some (.p d)) (h : pureC c = true) : mapC f c = some c := by
  cases c with
  | ins n fs =>
    show (match mapFs f fs with | some gs => some (MCell.ins n gs) | none => none) = _
    rw [pureFs_map hf h]
  | gone => cases h
  | _ => rfl
theorem ren_p {fp : List Nat} (d : Dat) : renV fp (.p d) = some (.p d) := rfl
theorem back_p {fp : List Nat} (d : Dat) : backV fp (.p d) = some (.p d) := rfl
theorem callO_r (h : S[i]? = some c) (hc : pureC c = true) : callD g [.r i] S = backD [i] S (g [.r 0] [c]) := by
  show callAt g _ S (clos S 64 [i] []) = _
  rw [clos1 h (pureC_ref hc)]
  exact callAt1 h (mapVs_cons ren1 rfl) (pureC_map ren_p hc)
theorem callO_rp (h : S[i]? = some c) (hc : pureC c = true) : callD g [.r i, .p a] S = backD [i] S (g [.r 0, .p a] [c]) := by
  show callAt g _ S (clos S 64 [i] []) = _
  rw [clos1 h (pureC_ref hc)]
  exact callAt1 h (mapVs_cons ren1 (mapVs_cons rfl rfl)) (pureC_map ren_p hc)
theorem backSO (hc : pureC c' = true) : backS [i] [c'] = some [c'] := by
  show (match mapC (backV [i]) c' with | some y => (match mapCs (backV [i]) [] with | some ys => some (y :: ys) | none => none) | none => none) = _
  rw [pureC_map back_p hc]
  rfl
theorem backO_ret (hc : pureC c' = true) : backD [i] S (.ret (.p d) [c']) = .v (.p d) (S.set i c') := by
  show (match (some (.p d) : Option Val), backS [i] [c'] with | some y, some cs => XR.v y (wr (rest S [i]) [i] cs) | _, _ => .bad) = _
  rw [backSO hc, ← wr1]
theorem backO_exc (hc : pureC c' = true) : backD [i] S (.exc x [c']) = .ex x (S.set i c') := by
  show (match backS [i] [c'] with | some cs => XR.ex x (wr (rest S [i]) [i] cs) | none => .bad) = _
  rw [backSO hc, ← wr1]
theorem backO_lst (hc : pureC c' = true) : backD [i] S (.new (.lst ds) [c']) = .n (.lst ds) (S.set i c') := by
  show (match (some (.lst ds) : Option MCell), backS [i] [c'] with | some y, some cs => XR.n y (wr (rest S [i]) [i] cs) | _, _ => .bad) = _
  rw [backSO hc, ← wr1]
theorem backO_ins {fs : List (Str × Val)} (hc : pureC c' = true) (hf : (pureFs fs).isSome = true) : backD [i] S (.new (.ins cn fs) [c']) = .n (.ins cn fs) (S.set i c') := by
  show (match mapC (backV [i]) (.ins cn fs), backS [i] [c'] with | some y, some cs => XR.n y (wr (rest S [i]) [i] cs) | _, _ => .bad) = _
  rw [backSO hc, pureC_map back_p (show pureC (.ins cn fs) = true from hf), ← wr1]
theorem wr0 {cs : Store} : wr S [] cs = S := by cases cs <;> rfl
theorem makeF_ins {fs : List (Str × Val)} (h : (pureFs fs).isSome = true) : makeF S (.ret (.p dN) [.ins cn fs]) = .n (.ins cn fs) S := by
  show (match mapC (backV []) (.ins cn fs) with | some c' => XR.n c' S | none => .bad) = _
  rw [pureC_map back_p (show pureC (.ins cn fs) = true from h)]
theorem makeF_excO {fs : List (Str × Val)} {e : Exn} (h : (pureFs fs).isSome = true) : makeF S (.exc e [.ins cn fs]) = .ex e S := by
  show (match mapC (backV []) (.ins cn fs) with | some _ => XR.ex e S | none => .bad) = _
  rw [pureC_map back_p (show pureC (.ins cn fs) = true from h)]
end
end Mr
end

section
set_option maxRecDepth 100000
set_option maxHeartbeats 4000000
/-! Mx4: statements that go on -/
namespace Mr
open PySem L2 Dm
section
variable {Γ Γ1 : MEnv} {S S1 : Store} {Q : MEnv → Store → Prop} {a b : MS} {m : ME} {c : MCell} {d : Dat} {i : Nat} {t : MT} {x : Val}
def Ok (r : Rs) (Q : MEnv → Store → Prop) : Prop := ∃ Γ S, r = .nx Γ S ∧ Q Γ S
theorem ok_st (e : a Γ S = .nx Γ1 S1) (h : Q Γ1 S1) : Ok (a Γ S) Q := ⟨_, _, e, h⟩
theorem ok_nx (h : Q Γ S) : Ok (.nx Γ S) Q := ⟨_, _, rfl, h⟩
theorem ok_seq (h : Ok (a Γ S) fun Γ1 S1 => Ok (b Γ1 S1) Q) : Ok (seqM a b Γ S) Q := by
  obtain ⟨Γ1, S1, e, Γ2, S2, e2, h2⟩ := h
  exact ⟨Γ2, S2, by rw [seqM_app, e, seq_nx, e2], h2⟩
theorem ok_nil (h : Q Γ S) : Ok (nilM Γ S) Q := ⟨_, _, rfl, h⟩
theorem ok_asgC (e : m Γ S = .n c S1) (h : Q (Γ.set i (some (.r S1.length))) (S1 ++ [c])) : Ok (asgC i m Γ S) Q := ⟨_, _, by rw [asgC_app, e, al_t, asgK_v], h⟩
theorem ok_asgCv (e : m Γ S = .v x S1) (h : Q (Γ.set i (some x)) S1) : Ok (asgC i m Γ S) Q := ⟨_, _, by rw [asgC_app, e, al_v, asgK_v], h⟩
theorem ok_asg (e : (m Γ S).val = .v (.p d) S1) (h : Q (Γ.set i (some (.p d))) S1) : Ok (asgM i m Γ S) Q := ⟨_, _, by rw [asgM_app, e, asgK_v], h⟩
theorem ok_drop (e : (m Γ S).val = .v x S1) (h : Q Γ S1) : Ok (dropM m Γ S) Q := ⟨_, _, by rw [dropM_app, e, dropK_v], h⟩
theorem ok_ifF (e : t Γ S = .ok false S1) (h : Ok (b Γ S1) Q) : Ok (ifS t a b Γ S) Q := by
  rw [ifS_app, e, ifSK_f]
  exact h
theorem ok_ifT (e : t Γ S = .ok true S1) (h : Ok (a Γ S1) Q) : Ok (ifS t a b Γ S) Q := by
  rw [ifS_app, e, ifSK_t]
  exact h
theorem ok_guard (e : t Γ S = .ok false S1) (h : Q Γ S1) : Ok (ifS t a nilM Γ S) Q := ok_ifF e (ok_nil h)
variable {mi : MI} {mg : MG} {wp : List Nat} {ds : List Dat}
theorem ok_for {I : Store → Prop} (e : mi Γ S = .ok ds S1) (h0 : I S1) (hb : ∀ d ∈ ds, ∀ S, I S → ∃ Γ1, mg d (wipeE Γ wp) = some Γ1 ∧ Ok (b Γ1 S) fun Γ2 S2 => wipeE Γ2 wp = wipeE Γ wp ∧ I S2) (h : ∀ S2, I S2 → Q (wipeE Γ wp) S2) : Ok (forM mi mg wp b Γ S) Q := by
  obtain ⟨S2, e2, h2⟩ := forL_nx (I := I) (mg := mg) (wp := wp) (b := b) (ds := ds) (Γ := wipeE Γ wp) (S := S1) (fun d hd S hI => by
    obtain ⟨Γ1, g1, Γ2, S2, g2, g3, g4⟩ := hb d hd S hI
    exact ⟨Γ1, g1, Γ2, S2, g2, g3, g4⟩) h0
  exact ⟨_, _, by rw [forM_app, e, forK_ok, e2], h S2 h2⟩
/-- with the number of the turn -/
theorem ok_forN {I : Nat → Store → Prop} (e : mi Γ S = .ok ds S1) (h0 : I 0 S1) (hb : ∀ j d, ds[j]? = some d → ∀ S, I j S → ∃ Γ1, mg d (wipeE Γ wp) = some Γ1 ∧ Ok (b Γ1 S) fun Γ2 S2 => wipeE Γ2 wp = wipeE Γ wp ∧ I (j + 1) S2) (h : ∀ S2, I ds.length S2 → Q (wipeE Γ wp) S2) : Ok (forM mi mg wp b Γ S) Q := by
  obtain ⟨S2, e2, h2⟩ := forL_ix (I := I) (mg := mg) (wp := wp) (b := b) (ds := ds) (Γ := wipeE Γ wp) (S := S1) (j0 := 0) (fun j d hd S hI => by
    rw [Nat.zero_add] at hI ⊢
    obtain ⟨Γ1, g1, Γ2, S2, g2, g3, g4⟩ := hb j d hd S hI
    exact ⟨Γ1, g1, Γ2, S2, g2, g3, g4⟩) h0
  rw [Nat.zero_add] at h2
  exact ⟨_, _, by rw [forM_app, e, forK_ok, e2], h S2 h2⟩
/-- range(n) -/
theorem rng_mem {a : Int} {n : Nat} (h : d ∈ rgD a n) : ∃ i : Nat, i < n ∧ d = dI (a + (i : Int)) := by
  obtain ⟨i, hi, rfl⟩ := List.mem_map.1 h
  exact ⟨i, List.mem_range.1 hi, rfl⟩
theorem rng0 {n : Nat} (h : d ∈ rgD 0 n) : ∃ i : Nat, i < n ∧ d = dI (i : Int) := by
  obtain ⟨i, h1, h2⟩ := rng_mem h
  exact ⟨i, h1, by rw [h2, Int.zero_add]⟩
theorem law_fin (h : Ok (a Γ []) fun _ _ => True) : fin 0 (seqM a (retM (conM (.bl true))) Γ []) = .ret (.p (dB true)) [] := by
  obtain ⟨Γ1, S1, e, _⟩ := h
  rw [seqM_app, e, seq_nx]
  simp
theorem law_fin2 (h : Ok (a Γ []) fun Γ1 S1 => ∃ S2, b Γ1 S1 = .rt (.p (dB true)) S2) : fin 0 (seqM a b Γ []) = .ret (.p (dB true)) [] := by
  obtain ⟨Γ1, S1, e, S2, h⟩ := h
  rw [seqM_app, e, seq_nx, h]
  simp
@[simp] theorem set_app {S : Store} {c d : MCell} : (S ++ [c]).set S.length d = S ++ [d] := by simp
theorem get_app1 {S : Store} {c c' : MCell} {k : Nat} (h : S[k]? = some c') : (S ++ [c])[k]? = some c' := by
  rw [List.getElem?_append_left (fp1 h), h]
@[simp] theorem get_app {S : Store} {c : MCell} : (S ++ [c])[S.length]? = some c := by simp
end
end Mr
end

section
set_option maxRecDepth 100000
set_option maxHeartbeats 4000000
namespace Toy
open PySem L2 Dm Mr
def Strm (S : Store) (i : Nat) : Prop := ∃ a b : Int, S[i]? = some (.lst [dI a, dI b]) ∧ 0 ≤ a ∧ 0 ≤ b ∧ b < 2147483647
theorem Strm.put {S : Store} {i : Nat} {a b : Int} (h : Strm S i) (h1 : 0 ≤ a) (h2 : 0 ≤ b) (h3 : b < 2147483647) : Strm (S.set i (.lst [dI a, dI b])) i := by
  obtain ⟨_, _, h, _⟩ := h
  exact ⟨a, b, List.getElem?_set_self (fp1 h), h1, h2, h3⟩
def StrN (r : DR) : Prop := ∃ a b : Int, r = .new (.lst [dI a, dI b]) [] ∧ 0 ≤ a ∧ 0 ≤ b ∧ b < 2147483647
theorem atI_some {α : Type} {xs : List α} {k : Int} (h0 : 0 ≤ k) (h1 : k < xs.length) : ∃ x, atI xs k = some x ∧ x ∈ xs := by
  have h2 : k.toNat < xs.length := by omega
  refine ⟨xs[k.toNat], ?_, List.getElem_mem _⟩
  unfold atI ixN
  rw [if_pos h0, if_pos h1]
  show xs[k.toNat]? = _
  rw [List.getElem?_eq_getElem h2]
def DrawN (n : Int) (r : DR) : Prop := ∃ q a b : Int, r = .ret (.p (dI q)) [.lst [dI a, dI b]] ∧ 0 ≤ q ∧ q < n ∧ 0 ≤ a ∧ 0 ≤ b ∧ b < 2147483647
abbrev LET : Str := "abcdefghijklmnopqrstuvwxyz"
def isNm (z : Str) : Bool := (decide (1 ≤ z.length) && decide (z.length ≤ 8)) && z.cps.toList.all fun c => decide (c ∈ LET.cps.toList)
theorem mul_eq {c : Nat} {k : Int} (h : 1 ≤ k) : Txt.mul ⟨#[c]⟩ k = ⟨(List.replicate k.toNat c).toArray⟩ := by
  have hf : ∀ (n : Nat) (acc : Array Nat), ((List.replicate n (#[c] : Array Nat)).foldl (fun x1 x2 => x1 ++ x2) acc) = acc ++ (List.replicate n c).toArray := by
    intro n
    induction n with
    | zero => intro acc; simp
    | succ n ih =>
      intro acc
      rw [List.replicate_succ, List.foldl_cons, ih, List.replicate_succ]
      apply Array.ext'
      simp
  unfold Txt.mul
  rw [if_neg (by omega)]
  split
  · rename_i h2
    obtain rfl : k = 1 := by
      rw [show ((⟨#[c]⟩ : Str).length == 0) = false from rfl, Bool.or_false] at h2
      simpa using h2
    rfl
  · rw [hf]
    congr 1
    apply Array.ext'
    simp
def NmsN (n : Nat) (r : DR) : Prop := ∃ (ms : List Str) (a b : Int), r = .new (.lst (ms.map dS)) [.lst [dI a, dI b]] ∧ ms.length = n ∧ ms.Nodup ∧ (∀ m ∈ ms, isNm m = true) ∧ 0 ≤ a ∧ 0 ≤ b ∧ b < 2147483647
theorem let_eq : LET.cps.toList = (List.range 26).map (97 + ·) := by decide +kernel
theorem let_at {j : Int} (h0 : 0 ≤ j) (h1 : j < 26) : atI LET.cps.toList j = some (97 + j.toNat) := by
  rw [let_eq]
  unfold atI ixN
  rw [if_pos h0, if_pos (by simpa using h1)]
  show ((List.range 26).map (97 + ·))[j.toNat]? = _
  rw [List.getElem?_map, List.getElem?_range (by omega)]
  rfl
def sfx (i : Nat) : List Nat := if i < 26 then [] else [113]
def nm (q s t : Int) (i : Nat) : Str := ⟨(List.replicate (1 + t * ((i : Int) % 2)).toNat (97 + ((q + s * (i : Int)) % 26).toNat) ++ sfx i).toArray⟩
theorem sfx_len {i : Nat} (h : i < 52) : (sfx i).length = i / 26 := by
  unfold sfx
  split
  · simp; omega
  · simp; omega
theorem nm_b {t : Int} {i : Nat} (h0 : 0 ≤ t) (h1 : t < 7) : 1 ≤ 1 + t * ((i : Int) % 2) ∧ 1 + t * ((i : Int) % 2) ≤ 7 := by
  rcases (show (i : Int) % 2 = 0 ∨ (i : Int) % 2 = 1 by omega) with h | h <;> rw [h] <;> omega
theorem nm_lenE {q s t : Int} {i : Nat} (hi : i < 52) : (nm q s t i).length = (1 + t * ((i : Int) % 2)).toNat + i / 26 := by
  show (List.replicate _ _ ++ sfx i).toArray.size = _
  rw [List.size_toArray, List.length_append, List.length_replicate, sfx_len hi]
theorem nm_len {q s t : Int} {i : Nat} (h0 : 0 ≤ t) (h1 : t < 7) (hi : i < 52) : 1 ≤ (nm q s t i).length ∧ (nm q s t i).length ≤ 8 := by
  have := nm_b (i := i) h0 h1
  rw [nm_lenE hi]
  omega
theorem nm_is {q s t : Int} {i : Nat} (h0 : 0 ≤ t) (h1 : t < 7) (hi : i < 52) : isNm (nm q s t i) = true := by
  have h := nm_len (q := q) (s := s) (i := i) h0 h1 hi
  unfold isNm
  rw [decide_eq_true h.1, decide_eq_true h.2, let_eq]
  simp only [Bool.and_self, Bool.true_and, List.all_eq_true, decide_eq_true_eq]
  intro c hc
  have : c ∈ List.replicate (1 + t * ((i : Int) % 2)).toNat (97 + ((q + s * (i : Int)) % 26).toNat) ++ sfx i := hc
  rcases List.mem_append.1 this with this | this
  · rw [(List.mem_replicate.1 this).2]
    exact List.mem_map.2 ⟨_, List.mem_range.2 (by omega), rfl⟩
  · unfold sfx at this
    split at this
    · cases this
    · rw [List.mem_singleton.1 this]
      exact List.mem_map.2 ⟨16, List.mem_range.2 (by omega), rfl⟩
theorem nm_head {q s t : Int} {i : Nat} (h0 : 0 ≤ t) (h1 : t < 7) : (nm q s t i).cps.toList.head? = some (97 + ((q + s * (i : Int)) % 26).toNat) := by
  have hb := nm_b (i := i) h0 h1
  show (List.replicate _ _ ++ sfx i).head? = _
  obtain ⟨k, hk⟩ : ∃ k, (1 + t * ((i : Int) % 2)).toNat = k + 1 := ⟨(1 + t * ((i : Int) % 2)).toNat - 1, by omega⟩
  rw [hk, List.replicate_succ]
  rfl
theorem nm_inj {q s t : Int} {i j : Nat} (hs : s ∈ [1, 3, 5, 7, 9, 11, 15, 25]) (h0 : 0 ≤ t) (h1 : t < 7) (hi : i < 52) (hj : j < 52) (h : nm q s t i = nm q s t j) : i = j := by
  have hb := nm_b (i := i) h0 h1
  have hc := nm_b (i := j) h0 h1
  have e1 := nm_head (q := q) (s := s) (i := i) h0 h1
  have e2 := nm_head (q := q) (s := s) (i := j) h0 h1
  rw [h, e2] at e1
  have h3 := Option.some.inj e1
  have e3 := nm_lenE (q := q) (s := s) (t := t) hi
  have e4 := nm_lenE (q := q) (s := s) (t := t) hj
  rw [h, e4] at e3
  have h4 : (i : Int) % 26 = (j : Int) % 26 := by
    simp only [List.mem_cons, List.not_mem_nil, or_false] at hs
    rcases hs with rfl | rfl | rfl | rfl | rfl | rfl | rfl | rfl <;> omega
  have h5 : (i : Int) % 2 = (j : Int) % 2 := by omega
  rw [h5] at e3
  omega
theorem nm_nodup {q s t : Int} {n : Nat} (hs : s ∈ [1, 3, 5, 7, 9, 11, 15, 25]) (h0 : 0 ≤ t) (h1 : t < 7) (hn : n ≤ 52) : ((List.range n).map (nm q s t)).Nodup := by
  show List.Pairwise _ _
  rw [List.pairwise_map]
  refine List.Pairwise.imp_of_mem ?_ (List.nodup_range (n := n))
  intro i j hi hj hne h
  rw [List.mem_range] at hi hj
  exact hne (nm_inj hs h0 h1 (by omega) (by omega) h)
def ChN (ds : List Dat) (r : DR) : Prop := ∃ (d : Dat) (a b : Int), r = .ret (.p d) [.lst [dI a, dI b]] ∧ d ∈ ds ∧ 0 ≤ a ∧ 0 ≤ b ∧ b < 2147483647
theorem isNm_len {z : Str} (h : isNm z = true) : 1 ≤ z.length ∧ z.length ≤ 8 := by
  unfold isNm at h
  simp only [Bool.and_eq_true, decide_eq_true_eq] at h
  exact h.1
theorem isNm_ok {z : Str} (h : isNm z = true) : PyData.strOk z = true := by
  unfold isNm at h
  rw [Bool.and_eq_true, List.all_eq_true] at h
  unfold PyData.strOk
  rw [← Array.all_toList, List.all_eq_true]
  intro c hc
  have h1 := of_decide_eq_true (h.2 c hc)
  have h2 : ∀ c ∈ LET.cps.toList, c < 0x110000 := by decide +kernel
  exact decide_eq_true (h2 c h1)
abbrev Nms (ms : List Str) : Prop := ∀ m ∈ ms, isNm m = true
theorem Nms.ok {ms : List Str} (h : Nms ms) : ∀ m ∈ ms, PyData.strOk m = true := fun m hm => isNm_ok (h m hm)
def dist (ms : List Str) : List Str := srt (dd ms)
theorem dist_mem {ms : List Str} {x : Str} : x ∈ dist ms ↔ x ∈ ms := by
  unfold dist
  rw [srt_mem]
  exact (dd_spec ms).2 x
theorem dist_nodup {ms : List Str} : (dist ms).Nodup := (srt_perm _).nodup_iff.2 (dd_spec ms).1
theorem dist_len {ms : List Str} : (dist ms).length = (dd ms).length := srt_len _
theorem dist_le {ms : List Str} : (dist ms).length ≤ ms.length := by rw [dist_len]; exact dd_len ms
theorem dist_pw {ms : List Str} : (dist ms).Pairwise (fun a b => sle a b = true) := srt_pw _
theorem nodup_perm {xs ys : List Str} (hx : xs.Nodup) (hy : ys.Nodup) (h : ∀ x, x ∈ xs ↔ x ∈ ys) : xs.Perm ys := (List.perm_ext_iff_of_nodup hx hy).2 h
theorem dist_congr {xs ys : List Str} (h : ∀ x, x ∈ xs ↔ x ∈ ys) : dist xs = dist ys :=
  srt_congr (nodup_perm (dd_spec xs).1 (dd_spec ys).1 fun x => by rw [(dd_spec xs).2, (dd_spec ys).2]; exact h x)
theorem dist_of {xs : List Str} (h : xs.Nodup) (hp : xs.Pairwise (fun a b => sle a b = true)) : dist xs = xs :=
  perm_pw_eq ((srt_perm _).trans (nodup_perm (dd_spec xs).1 h fun x => (dd_spec xs).2 x)) (srt_pw _) hp
theorem dist_filter {xs : List Str} {p : Str → Bool} : dist ((dist xs).filter p) = (dist xs).filter p := dist_of (dist_nodup.filter _) (dist_pw.filter _)
theorem dist_nms {ms : List Str} (h : Nms ms) : Nms (dist ms) := fun m hm => h m (dist_mem.1 hm)
theorem filter_nms {ms : List Str} {p : Str → Bool} (h : Nms ms) : Nms (ms.filter p) := fun m hm => h m (List.mem_filter.1 hm).1
theorem app_nms {ms ns : List Str} (h : Nms ms) (h2 : Nms ns) : Nms (ms ++ ns) := fun m hm => (List.mem_append.1 hm).elim (h m) (h2 m)
abbrev Com (ms : List Str) : Dat := .ins "Committee" [("own_members", dLs ms)]
abbrev ComC (ms : List Str) : MCell := .ins "Committee" [("own_members", .p (dLs ms))]
@[simp] theorem fldV_com {S : Store} {ms : List Str} : fldV "Committee" "own_members" S (.p (Com ms)) = some (.p (dLs ms)) := rfl
@[simp] theorem recvP_com {S : Store} {ms : List Str} : recvP "Committee" S (.p (Com ms)) = true := rfl
@[simp] theorem recv_com {S : Store} {ms : List Str} : recv "Committee" "is_within" S (.p (Com ms)) = true := rfl
@[simp] theorem binOk_com {S : Store} {ms : List Str} {b : Bool} : binOk "Committee" [] b S (.p (Com ms)) = true := rfl
@[simp] theorem eqOk_com {S : Store} {xs ys : List Str} : eqOk "Committee" S (.p (Com xs)) (.p (Com ys)) = true := rfl
theorem lc_filter {xs : List Str} {p : Str → Bool} {S : Store} {Γ : MEnv} {mt : MT} {me : ME} {v : Nat} (ht : ∀ x ∈ xs, mt ((wipeE Γ [v]).set v (some (.p (dS x)))) S = .ok (p x) S) (he : ∀ x ∈ xs, (me ((wipeE Γ [v]).set v (some (.p (dS x)))) S) = .v (.p (dS x)) S) : lcL (mgN v) [v] mt me Γ (xs.map dS) S = some ((xs.filter p).map dS, S) :=
  lcL_pure (fun x _ => rfl) ht (fun x h _ => by rw [he x h]; rfl)
theorem pIsi_com {ys : List Str} : pIsi [Com ys, .glb "Committee"] = .d (dB true) := by
  rw [pIsi_own (by decide) (by decide)]
  rfl
def xorL (xs ys : List Str) : List Str := (xs.filter fun x => !decide (x ∈ ys)) ++ (ys.filter fun x => !decide (x ∈ xs))
theorem nodup_len : ∀ {l1 l2 : List Str}, l1.Nodup → (∀ x ∈ l1, x ∈ l2) → l1.length ≤ l2.length
  | [], _, _, _ => Nat.zero_le _
  | x :: l1, l2, h, hs => by
    have h1 := List.nodup_cons.1 h
    have h2 := nodup_len (l1 := l1) (l2 := l2.erase x) h1.2 fun y hy => (List.mem_erase_of_ne (fun e => h1.1 (by rw [← e]; exact hy))).2 (hs y (List.mem_cons_of_mem _ hy))
    rw [List.length_erase_of_mem (hs x List.mem_cons_self)] at h2
    have h3 := List.length_pos_of_mem (hs x List.mem_cons_self)
    rw [List.length_cons]
    omega
theorem dd_len_sub {xs ys : List Str} (h : ∀ x ∈ xs, x ∈ ys) : (dd xs).length ≤ (dd ys).length := by
  have h1 := dd_spec xs
  have h2 := dd_spec ys
  exact nodup_len h1.1 fun x hx => (h2.2 x).2 (h x ((h1.2 x).1 hx))
theorem putKD_new {acc : List (Key × Dat)} {k : Key} {d : Dat} (h : k ∉ acc.map (·.1)) : putKD acc k d = acc ++ [(k, d)] := by
  unfold putKD
  rw [if_neg]
  intro e
  obtain ⟨p, hp, hk⟩ := List.any_eq_true.1 e
  exact h (List.mem_map.2 ⟨p, hp, of_decide_eq_true hk⟩)
theorem mkD_nodup {es : List (Key × Dat)} (h : (es.map (·.1)).Nodup) : mkD es = es := by
  have key : ∀ (es acc : List (Key × Dat)), ((acc ++ es).map (·.1)).Nodup → es.foldl (fun acc p => putKD acc p.1 p.2) acc = acc ++ es := by
    intro es
    induction es with
    | nil => intro acc _; simp
    | cons e es ih =>
      intro acc hn
      obtain ⟨k, d⟩ := e
      rw [List.foldl_cons, putKD_new, ih]
      · simp
      · simpa using hn
      · simp only [List.map_append, List.map_cons] at hn
        intro hm
        exact (List.nodup_append.1 hn).2.2 k hm k List.mem_cons_self rfl
  unfold mkD
  exact key es [] (by simpa using h)
abbrev PL (xs : List Str) : List (Key × Dat) := (List.range xs.length).map fun i : Nat => (Sum.inr (xs.getD i Str.empty), dI i)
abbrev Rk (xs : List Str) : Dat := .ins "Ranking" [("order", dLs xs), ("places", .dK (PL xs))]
abbrev RkC (xs : List Str) : MCell := .ins "Ranking" [("order", .p (dLs xs)), ("places", .p (.dK (PL xs)))]
theorem map_range_getD {xs : List Str} : (List.range xs.length).map (fun i => xs.getD i Str.empty) = xs := by
  apply List.ext_getElem
  · simp
  · intro i h1 h2
    simp [List.getD_eq_getElem?_getD, List.getElem?_eq_getElem h2]
theorem PL_keys {xs : List Str} : (PL xs).map (·.1) = xs.map Sum.inr := by
  rw [List.map_map]
  conv => rhs; rw [← map_range_getD (xs := xs), List.map_map]
  rfl
theorem dd_nodup {xs : List Str} (h : xs.Nodup) : dd xs = xs := by
  have key : ∀ (ys acc : List Str), (acc ++ ys).Nodup → ys.foldl (fun acc x => if x ∈ acc then acc else acc ++ [x]) acc = acc ++ ys := by
    intro ys
    induction ys with
    | nil => intro acc _; simp
    | cons y ys ih =>
      intro acc hn
      rw [List.foldl_cons, if_neg, ih]
      · simp
      · simpa using hn
      · intro hm
        exact (List.nodup_append.1 hn).2.2 y hm y List.mem_cons_self rfl
  exact key xs [] (by simpa using h)
structure RkOk (xs : List Str) : Prop where
  nm : Nms xs
  nd : xs.Nodup
  le : xs.length ≤ 30
theorem RkOk.filter {xs : List Str} {p : Str → Bool} (h : RkOk xs) : RkOk (xs.filter p) := ⟨filter_nms h.nm, h.nd.filter _, Nat.le_trans (List.length_filter_le _ _) h.le⟩
theorem RkOk.ok {xs : List Str} (h : RkOk xs) : ∀ m ∈ xs, PyData.strOk m = true := h.nm.ok
theorem RkOk.perm {xs ys : List Str} (h : RkOk xs) (p : ys.Perm xs) : RkOk ys := ⟨fun m hm => h.nm m (p.mem_iff.1 hm), p.nodup_iff.2 h.nd, by rw [p.length_eq]; exact h.le⟩
theorem dist_nd_len {xs : List Str} (h : xs.Nodup) : (dist xs).length = xs.length := by rw [dist_len, dd_nodup h]
theorem enD_map {xs : List Str} : enD (xs.map dS) = (List.range xs.length).map fun i : Nat => .tup [dI i, dS (xs.getD i Str.empty)] := by
  unfold enD
  rw [List.length_map]
  refine List.map_congr_left fun i hi => ?_
  rw [List.mem_range] at hi
  have : (xs.map dS).getD i dN = dS (xs.getD i Str.empty) := by
    rw [List.getD_eq_getElem?_getD, List.getD_eq_getElem?_getD, List.getElem?_map, List.getElem?_eq_getElem hi]
    rfl
  rw [this]
theorem putFV_rk {a b : Val} : putFV "places" b [(("order" : Str), a)] = [(("order" : Str), a), (("places" : Str), b)] := rfl
@[simp] theorem putFV_nil {f : Str} {a : Val} : putFV f a [] = [(f, a)] := rfl
@[simp] theorem getF_hd {f : Str} {a : Val} {r : List (Str × Val)} : getF f ((f, a) :: r) = some a := by
  unfold getF
  rw [beq_self_eq_true]
@[simp] theorem fldV_rk {S : Store} {xs : List Str} : fldV "Ranking" "order" S (.p (Rk xs)) = some (.p (dLs xs)) := rfl
@[simp] theorem fldV_rk2 {S : Store} {xs : List Str} : fldV "Ranking" "places" S (.p (Rk xs)) = some (.p (.dK (PL xs))) := rfl
@[simp] theorem recvP_rk {S : Store} {xs : List Str} : recvP "Ranking" S (.p (Rk xs)) = true := rfl
@[simp] theorem recv_rkW {S : Store} {xs : List Str} : recv "Ranking" "worst" S (.p (Rk xs)) = true := rfl
@[simp] theorem recv_rkB {S : Store} {xs : List Str} : recv "Ranking" "best" S (.p (Rk xs)) = true := rfl
@[simp] theorem recv_rkP {S : Store} {xs : List Str} : recv "Ranking" "prefers" S (.p (Rk xs)) = true := rfl
@[simp] theorem recv_rkPl {S : Store} {xs : List Str} : recv "Ranking" "place" S (.p (Rk xs)) = true := rfl
@[simp] theorem binOk_rk {S : Store} {ms : List Str} {b : Bool} : binOk "Ranking" ["Committee"] b S (.p (Com ms)) = true := rfl
@[simp] theorem eqOk_rk {S : Store} {xs ys : List Str} : eqOk "Ranking" S (.p (Rk xs)) (.p (Rk ys)) = true := rfl
theorem com_len {xs : List Str} : (xs.map dS).length = xs.length := List.length_map ..
/-- the last one of a list that is in another -/
def wst (xs ys : List Str) : Option Str := (xs.filter fun x => decide (x ∈ ys)).getLast?
def oS : Option Str → Dat
  | some z => dS z
  | none => dN
theorem pIsi_rk {ys : List Str} : pIsi [Rk ys, .glb "Ranking"] = .d (dB true) := by
  rw [pIsi_own (by decide) (by decide)]
  rfl
abbrev Tn (xs : List Str) : Dat := .ins "Turns" [("order", dLs xs)]
abbrev TnC (xs : List Str) : MCell := .ins "Turns" [("order", .p (dLs xs))]
@[simp] theorem fldV_tn {S : Store} {xs : List Str} : fldV "Turns" "order" S (.p (Tn xs)) = some (.p (dLs xs)) := rfl
@[simp] theorem recvP_tn {S : Store} {xs : List Str} : recvP "Turns" S (.p (Tn xs)) = true := rfl
@[simp] theorem binOk_tn {S : Store} {ms : List Str} {b : Bool} : binOk "Turns" [] b S (.p (Tn ms)) = true := rfl
@[simp] theorem binOk_tni {S : Store} {n : Int} : binOk "Turns" [] true S (.p (dI n)) = true := rfl
@[simp] theorem eqOk_tn {S : Store} {xs ys : List Str} : eqOk "Turns" S (.p (Tn xs)) (.p (Tn ys)) = true := rfl
theorem pIsi_tn {ys : List Str} : pIsi [Tn ys, .glb "Turns"] = .d (dB true) := by
  rw [pIsi_own (by decide) (by decide)]
  rfl
abbrev RD (rs : List (Str × List Str)) : List (Key × Dat) := rs.map fun p => (Sum.inr p.1, Rk p.2)
abbrev Gm (rs : List (Str × List Str)) (ts : List Str) : Dat := .ins "Game" [("own_rankings", .dK (RD rs)), ("own_turns", Tn ts)]
abbrev GmC (rs : List (Str × List Str)) (ts : List Str) : MCell := .ins "Game" [("own_rankings", .p (.dK (RD rs))), ("own_turns", .p (Tn ts))]
def look (rs : List (Str × List Str)) (p : Str) : List Str := ((rs.find? fun q => decide (q.1 = p)).map (·.2)).getD []
theorem look_mem {rs : List (Str × List Str)} {p : Str} (h : p ∈ rs.map (·.1)) : ∃ xs, (p, xs) ∈ rs ∧ look rs p = xs ∧ (rs.find? fun q => decide (q.1 = p)) = some (p, xs) := by
  unfold look
  cases e : rs.find? fun q => decide (q.1 = p) with
  | none =>
    obtain ⟨q, hq, hqp⟩ := List.mem_map.1 h
    have := List.find?_eq_none.1 e q hq
    simp [hqp] at this
  | some q =>
    have h1 := List.mem_of_find?_eq_some e
    have h2 := of_decide_eq_true (List.find?_some (p := fun q : Str × List Str => decide (q.1 = p)) e)
    obtain ⟨a, b⟩ := q
    obtain rfl : a = p := h2
    exact ⟨b, h1, rfl, rfl⟩
theorem lookK_map {α : Type} {f : α → Dat} : ∀ {rs : List (Str × α)} {p : Str}, lookK (rs.map fun q => (Sum.inr q.1, f q.2)) (Sum.inr p) = (rs.find? fun q => decide (q.1 = p)).map fun q => f q.2
  | [], p => rfl
  | (a, b) :: rs, p => by
    have ih := lookK_map (f := f) (rs := rs) (p := p)
    unfold lookK at ih ⊢
    rw [List.map_cons, List.find?_cons, List.find?_cons]
    dsimp only
    by_cases h : a = p
    · subst h
      simp
    · have h2 : (Sum.inr a : Key) ≠ Sum.inr p := fun e => h (by cases e; rfl)
      rw [decide_eq_false h2, decide_eq_false h]
      exact ih
theorem lookK_RD {rs : List (Str × List Str)} {p : Str} (h : p ∈ rs.map (·.1)) : lookK (RD rs) (Sum.inr p) = some (Rk (look rs p)) := by
  obtain ⟨xs, _, h2, h3⟩ := look_mem h
  rw [lookK_map (f := Rk), h3, h2]
  rfl
theorem lookK_RDn {rs : List (Str × List Str)} {p : Str} : (lookK (RD rs) (Sum.inr p)).isSome = decide (p ∈ rs.map (·.1)) := by
  rw [lookK_map (f := Rk), Option.isSome_map]
  cases e : rs.find? fun q => decide (q.1 = p) with
  | none =>
    rw [decide_eq_false]
    · rfl
    · intro h
      obtain ⟨_, _, _, h3⟩ := look_mem h
      rw [e] at h3
      cases h3
  | some q =>
    rw [decide_eq_true]
    · rfl
    · exact List.mem_map.2 ⟨q, List.mem_of_find?_eq_some e, of_decide_eq_true (List.find?_some (p := fun q : Str × List Str => decide (q.1 = p)) e)⟩
/-- rankings of the same alternatives, by players in order -/
structure RsOk' (rs : List (Str × List Str)) : Prop where
  ne : rs ≠ []
  nm : ∀ p ∈ rs, isNm p.1 = true
  nd : (rs.map (·.1)).Nodup
  pw : (rs.map (·.1)).Pairwise (fun a b => sle a b = true)
  rk : ∀ p ∈ rs, RkOk p.2
  sm : ∀ p ∈ rs, ∀ q ∈ rs, p.2.Perm q.2
  le : rs.length ≤ 60
/-- the first player's ranking -/
def alt (rs : List (Str × List Str)) : List Str := (rs.head?.map (·.2)).getD []
structure GOk (rs : List (Str × List Str)) (ts : List Str) : Prop where
  ro : RsOk' rs
  tl : ts.length ≤ (alt rs).length
  tm : ∀ t ∈ ts, t ∈ rs.map (·.1)
theorem RsOk'.alt_mem {rs : List (Str × List Str)} (h : RsOk' rs) : ∃ p r, rs = (p, alt rs) :: r := by
  obtain ⟨a, r, e⟩ := List.exists_cons_of_ne_nil h.ne
  obtain ⟨p, xs⟩ := a
  exact ⟨p, r, by rw [e]; rfl⟩
theorem RsOk'.alt_ok {rs : List (Str × List Str)} (h : RsOk' rs) : RkOk (alt rs) := by
  obtain ⟨p, r, e⟩ := h.alt_mem
  exact h.rk (p, alt rs) (by rw [e]; exact List.mem_cons_self)
theorem RsOk'.look_perm {rs : List (Str × List Str)} (h : RsOk' rs) {p : Str} (hp : p ∈ rs.map (·.1)) : (look rs p).Perm (alt rs) := by
  obtain ⟨xs, h1, h2, _⟩ := look_mem hp
  rw [h2]
  obtain ⟨q, r, e⟩ := h.alt_mem
  exact h.sm (p, xs) h1 (q, alt rs) (by rw [e]; exact List.mem_cons_self)
theorem RsOk'.look_ok {rs : List (Str × List Str)} (h : RsOk' rs) {p : Str} (hp : p ∈ rs.map (·.1)) : RkOk (look rs p) := by
  obtain ⟨xs, h1, h2, _⟩ := look_mem hp
  rw [h2]
  exact h.rk _ h1
theorem RsOk'.p_nm {rs : List (Str × List Str)} (h : RsOk' rs) {p : Str} (hp : p ∈ rs.map (·.1)) : isNm p = true := by
  obtain ⟨q, hq, rfl⟩ := List.mem_map.1 hp
  exact h.nm q hq
theorem GOk.t_nms {rs : List (Str × List Str)} {ts : List Str} (h : GOk rs ts) : Nms ts := fun t ht => h.ro.p_nm (h.tm t ht)
theorem GOk.t_le {rs : List (Str × List Str)} {ts : List Str} (h : GOk rs ts) : ts.length ≤ 30 := Nat.le_trans h.tl h.ro.alt_ok.le
theorem dist_perm {xs ys : List Str} (h : xs.Perm ys) : dist xs = dist ys := dist_congr fun x => h.mem_iff
theorem RD_vals {rs : List (Str × List Str)} : (RD rs).map (·.2) = rs.map fun p => Rk p.2 := by
  rw [List.map_map]
  rfl
theorem RD_keys {rs : List (Str × List Str)} : (RD rs).map (·.1) = (rs.map (·.1)).map Sum.inr := by
  rw [List.map_map, List.map_map]
  rfl
@[simp] theorem fldV_gm1 {S : Store} {rs : List (Str × List Str)} {ts : List Str} : fldV "Game" "own_rankings" S (.p (Gm rs ts)) = some (.p (.dK (RD rs))) := rfl
@[simp] theorem fldV_gm2 {S : Store} {rs : List (Str × List Str)} {ts : List Str} : fldV "Game" "own_turns" S (.p (Gm rs ts)) = some (.p (Tn ts)) := rfl
@[simp] theorem recvP_gm {S : Store} {rs : List (Str × List Str)} {ts : List Str} : recvP "Game" S (.p (Gm rs ts)) = true := rfl
@[simp] theorem eqOk_gm {S : Store} {rs rs' : List (Str × List Str)} {ts ts' : List Str} : eqOk "Game" S (.p (Gm rs ts)) (.p (Gm rs' ts')) = true := rfl
@[simp] theorem recv_gm1 {S : Store} {rs : List (Str × List Str)} {ts : List Str} : recv "Game" "first_ranking" S (.p (Gm rs ts)) = true := rfl
@[simp] theorem recv_gm2 {S : Store} {rs : List (Str × List Str)} {ts : List Str} : recv "Game" "ranking_of" S (.p (Gm rs ts)) = true := rfl
@[simp] theorem recv_gm3 {S : Store} {rs : List (Str × List Str)} {ts : List Str} : recv "Game" "with_turns" S (.p (Gm rs ts)) = true := rfl
@[simp] theorem recv_gm4 {S : Store} {rs : List (Str × List Str)} {ts : List Str} : recv "Game" "without" S (.p (Gm rs ts)) = true := rfl
@[simp] theorem recv_gm5 {S : Store} {rs : List (Str × List Str)} {ts : List Str} : recv "Game" "after" S (.p (Gm rs ts)) = true := rfl
@[simp] theorem recv_gm6 {S : Store} {rs : List (Str × List Str)} {ts : List Str} : recv "Game" "restricted" S (.p (Gm rs ts)) = true := rfl
@[simp] theorem recv_gm7 {S : Store} {rs : List (Str × List Str)} {ts : List Str} : recv "Game" "parts" S (.p (Gm rs ts)) = true := rfl
theorem fin_r {k0 k : Nat} {S : Store} {c : MCell} (h : ¬ k < k0) (e : S[k]? = some c) : fin k0 (.rt (.r k) S) = .new c (S.take k0) := by
  unfold fin
  dsimp only
  rw [decide_eq_false h]
  dsimp only
  rw [e]
@[simp] theorem fin_r0 {S : Store} {c : MCell} : fin 0 (.rt (.r 0) (c :: S)) = .new c [] := fin_r (by decide) rfl
@[simp] theorem all_tt {α : Type} {l : List α} : (l.all fun _ => true) = true := List.all_eq_true.2 fun _ _ => rfl
theorem pAll_tt {α : Type} {l : List α} : pAll [.lst (l.map fun _ => dB true)] = .d (dB true) := by
  rw [pAll_f (f := fun _ => true)]
  simp
end Toy
end

section
set_option maxRecDepth 100000
set_option maxHeartbeats 4000000
/-! the backward pass, in plain Lean -/
namespace Toy
open PySem L2 Dm Mr
/-- A without x -/
def rem (A : List Str) (x : Str) : List Str := A.filter fun y => !decide (y = x)
theorem rem_mem {A : List Str} {x y : Str} : y ∈ rem A x ↔ y ∈ A ∧ y ≠ x := by
  unfold rem
  rw [List.mem_filter]
  simp
theorem rem_nodup {A : List Str} {x : Str} (h : A.Nodup) : (rem A x).Nodup := h.filter _
theorem rem_len {A : List Str} {x : Str} (h : A.Nodup) (hx : x ∈ A) : (rem A x).length + 1 = A.length := by
  have : rem A x = A.erase x := by
    rw [h.erase_eq_filter]
    unfold rem
    congr 1
  rw [this, List.length_erase_of_mem hx]
  have := List.length_pos_of_mem hx
  omega
theorem rem_comm {A : List Str} {x y : Str} : rem (rem A x) y = rem (rem A y) x := by
  unfold rem
  rw [List.filter_filter, List.filter_filter]
  congr 1
  funext z
  rw [Bool.and_comm]
theorem rem_self {A : List Str} {x : Str} (h : x ∉ A) : rem A x = A := by
  unfold rem
  rw [List.filter_eq_self]
  intro y hy
  simp
  intro e
  exact h (e ▸ hy)
/-! ### the worst of a set -/
theorem wst_mem {xs A : List Str} {x : Str} (h : wst xs A = some x) : x ∈ xs ∧ x ∈ A := by
  unfold wst at h
  have := List.mem_of_getLast? h
  simpa using this
theorem wst_none {xs A : List Str} : wst xs A = none ↔ ∀ x ∈ xs, x ∉ A := by
  unfold wst
  rw [List.getLast?_eq_none_iff, List.filter_eq_nil_iff]
  simp
theorem wst_some {xs A : List Str} {a : Str} (ha : a ∈ xs) (hA : a ∈ A) : ∃ x, wst xs A = some x := by
  cases e : wst xs A with
  | some x => exact ⟨x, rfl⟩
  | none => exact absurd hA (wst_none.1 e a ha)
/-- x stands behind y or at its place -/
def Aft (xs : List Str) (x y : Str) : Prop := xs.idxOf y ≤ xs.idxOf x
theorem wst_spec {xs A : List Str} {x : Str} (hn : xs.Nodup) (h : wst xs A = some x) : ∀ y ∈ xs, y ∈ A → Aft xs x y := by
  unfold wst at h
  intro y hy hA
  unfold Aft
  obtain ⟨ys, e⟩ : ∃ ys, xs.filter (fun x => decide (x ∈ A)) = ys ++ [x] := by
    have hne : xs.filter (fun x => decide (x ∈ A)) ≠ [] := by intro e; rw [e] at h; cases h
    have h2 := List.getLast?_eq_some_getLast hne
    rw [h2] at h
    exact ⟨_, by rw [← Option.some.inj h, List.dropLast_concat_getLast hne]⟩
  have hy2 : y ∈ ys ++ [x] := by rw [← e]; exact List.mem_filter.2 ⟨hy, by simpa using hA⟩
  rw [List.mem_append, List.mem_singleton] at hy2
  rcases hy2 with hy2 | rfl
  · have hs : (ys ++ [x]).Sublist xs := by rw [← e]; exact List.filter_sublist
    obtain ⟨l1, l2, rfl, h1, h2⟩ := List.append_sublist_iff.1 hs
    have hx : x ∈ l2 := h2.subset List.mem_cons_self
    have hy3 : y ∈ l1 := h1.subset hy2
    have hx1 : x ∉ l1 := fun hm => (List.nodup_append.1 hn).2.2 x hm x hx rfl
    rw [List.idxOf_append, List.idxOf_append, if_pos hy3, if_neg hx1]
    have := List.idxOf_lt_length_iff.2 hy3
    omega
  · exact Nat.le_refl _
theorem idx_inj {xs : List Str} {x y : Str} (hx : x ∈ xs) (h : xs.idxOf x = xs.idxOf y) : x = y := by
  have h1 := List.idxOf_lt_length_iff.2 hx
  have e1 : xs[xs.idxOf x]? = some x := by rw [List.getElem?_eq_getElem h1]; simp
  have h2 : xs.idxOf y < xs.length := by rw [← h]; exact h1
  have e2 : xs[xs.idxOf y]? = some y := by rw [List.getElem?_eq_getElem h2]; simp
  rw [h, e2] at e1
  exact (Option.some.inj e1).symm
theorem wst_of {xs A : List Str} {x : Str} (hn : xs.Nodup) (hx : x ∈ xs) (hA : x ∈ A) (h : ∀ y ∈ xs, y ∈ A → Aft xs x y) : wst xs A = some x := by
  obtain ⟨z, hz⟩ := wst_some hx hA
  have h1 := wst_mem hz
  have h2 := wst_spec hn hz x hx hA
  have h3 := h z h1.1 h1.2
  rw [hz]
  exact congrArg some (idx_inj h1.1 (Nat.le_antisymm h3 h2))
theorem wst_congr {xs A B : List Str} (h : ∀ x ∈ xs, (x ∈ A ↔ x ∈ B)) : wst xs A = wst xs B := by
  unfold wst
  rw [List.filter_congr (q := fun x => decide (x ∈ B)) fun x hx => by simp [h x hx]]
/-- the ranking may be cut down to a set that holds A -/
theorem wst_filter {xs A : List Str} {p : Str → Bool} (h : ∀ x ∈ A, p x = true) : wst (xs.filter p) A = wst xs A := by
  unfold wst
  rw [List.filter_filter]
  congr 1
  apply List.filter_congr
  intro x _
  by_cases hx : x ∈ A
  · simp [hx, h x hx]
  · simp [hx]
/-! ### the pass -/
/-- one step: the player p strikes -/
def stk (rs : List (Str × List Str)) (p : Str) (A : List Str) : List Str := match wst (look rs p) A with
  | some x => rem A x
  | none => A
/-- what is left behind the turns ts -/
def bk (rs : List (Str × List Str)) : List Str → List Str → List Str
  | [], A => A
  | t :: ts, A => stk rs t (bk rs ts A)
/-- the steps, from the last turn to the first -/
def bkS (rs : List (Str × List Str)) : List Str → List Str → List (Str × Str)
  | [], _ => []
  | t :: ts, A => bkS rs ts A ++ (match wst (look rs t) (bk rs ts A) with
    | some x => [(t, x)]
    | none => [])
theorem bk_append {rs : List (Str × List Str)} {ts us A : List Str} : bk rs (ts ++ us) A = bk rs ts (bk rs us A) := by
  induction ts with
  | nil => rfl
  | cons t ts ih =>
    rw [List.cons_append]
    unfold bk
    rw [ih]
theorem bkS_snoc {rs : List (Str × List Str)} {ts A : List Str} {t : Str} : bkS rs (t :: ts) A = bkS rs ts A ++ (match wst (look rs t) (bk rs ts A) with | some x => [(t, x)] | none => []) := rfl
theorem stk_sub {rs : List (Str × List Str)} {p : Str} {A : List Str} {x : Str} (h : x ∈ stk rs p A) : x ∈ A := by
  unfold stk at h
  split at h
  · exact (rem_mem.1 h).1
  · exact h
theorem bk_sub {rs : List (Str × List Str)} {ts A : List Str} : ∀ {x : Str}, x ∈ bk rs ts A → x ∈ A := by
  induction ts with
  | nil => exact fun h => h
  | cons t ts ih => exact fun h => ih (stk_sub h)
theorem bk_cons {rs : List (Str × List Str)} {ts A : List Str} {t : Str} : bk rs (t :: ts) A = stk rs t (bk rs ts A) := rfl
theorem stk_eq {rs : List (Str × List Str)} {p x : Str} {A : List Str} (h : wst (look rs p) A = some x) : stk rs p A = rem A x := by
  unfold stk
  rw [h]
theorem stk_none {rs : List (Str × List Str)} {p : Str} {A : List Str} (h : wst (look rs p) A = none) : stk rs p A = A := by
  unfold stk
  rw [h]
theorem bk_filter {rs : List (Str × List Str)} {ts A : List Str} : bk rs ts A = A.filter fun x => !decide (x ∈ (bkS rs ts A).map (·.2)) := by
  induction ts with
  | nil =>
    show A = A.filter fun x => !decide (x ∈ [])
    rw [List.filter_eq_self.2]
    intro x _
    simp
  | cons t ts ih =>
    rw [bkS_snoc, bk_cons]
    cases e : wst (look rs t) (bk rs ts A) with
    | none =>
      rw [stk_none e]
      dsimp only
      rw [List.append_nil]
      exact ih
    | some x =>
      rw [stk_eq e]
      dsimp only
      conv => lhs; rw [ih]
      unfold rem
      rw [List.filter_filter]
      apply List.filter_congr
      intro y _
      simp only [List.map_append, List.mem_append, List.map_cons, List.map_nil, List.mem_singleton]
      by_cases h1 : y ∈ (bkS rs ts A).map (·.2) <;> by_cases h2 : y = x <;> simp [h1, h2]
theorem bk_nodup {rs : List (Str × List Str)} {ts A : List Str} (h : A.Nodup) : (bk rs ts A).Nodup := by
  rw [bk_filter]
  exact h.filter _
/-- A is a set of alternatives, told in order -/
structure Sub (rs : List (Str × List Str)) (A : List Str) : Prop where
  nd : A.Nodup
  pw : A.Pairwise (fun a b => sle a b = true)
  sb : ∀ x ∈ A, x ∈ alt rs
theorem Sub.filter {rs : List (Str × List Str)} {A : List Str} {p : Str → Bool} (h : Sub rs A) : Sub rs (A.filter p) := ⟨h.nd.filter _, h.pw.filter _, fun x hx => h.sb x (List.mem_filter.1 hx).1⟩
theorem Sub.rem {rs : List (Str × List Str)} {A : List Str} {x : Str} (h : Sub rs A) : Sub rs (rem A x) := h.filter
theorem Sub.stk {rs : List (Str × List Str)} {A : List Str} {p : Str} (h : Sub rs A) : Sub rs (stk rs p A) := by
  unfold Toy.stk
  split
  · exact h.rem
  · exact h
theorem Sub.bk {rs : List (Str × List Str)} {ts A : List Str} (h : Sub rs A) : Sub rs (bk rs ts A) := by
  rw [bk_filter]
  exact h.filter
theorem Sub.dist {rs : List (Str × List Str)} {A : List Str} (h : Sub rs A) : dist A = A := dist_of h.nd h.pw
theorem Sub.nms {rs : List (Str × List Str)} {A : List Str} (h : Sub rs A) (ho : RsOk' rs) : Nms A := fun x hx => ho.alt_ok.nm x (h.sb x hx)
theorem Sub.le {rs : List (Str × List Str)} {A : List Str} (h : Sub rs A) (ho : RsOk' rs) : A.length ≤ 30 := Nat.le_trans (nodup_len h.nd h.sb) ho.alt_ok.le
theorem Sub.all {rs : List (Str × List Str)} : Sub rs (Toy.dist (alt rs)) := ⟨dist_nodup, dist_pw, fun x hx => dist_mem.1 hx⟩
theorem Sub.look {rs : List (Str × List Str)} {A : List Str} (h : Sub rs A) (ho : RsOk' rs) {p : Str} (hp : p ∈ rs.map (·.1)) {x : Str} (hx : x ∈ A) : x ∈ look rs p := (ho.look_perm hp).mem_iff.2 (h.sb x hx)
theorem all_len {rs : List (Str × List Str)} (ho : RsOk' rs) : (Toy.dist (alt rs)).length = (alt rs).length := dist_nd_len ho.alt_ok.nd
theorem stk_wst {rs : List (Str × List Str)} {A : List Str} (h : Sub rs A) (ho : RsOk' rs) {p : Str} (hp : p ∈ rs.map (·.1)) (hA : A ≠ []) : ∃ x, wst (look rs p) A = some x ∧ x ∈ A ∧ stk rs p A = rem A x := by
  obtain ⟨a, r, e⟩ := List.exists_cons_of_ne_nil hA
  have ha : a ∈ A := by rw [e]; exact List.mem_cons_self
  obtain ⟨x, hx⟩ := wst_some (h.look ho hp ha) ha
  refine ⟨x, hx, (wst_mem hx).2, ?_⟩
  unfold stk
  rw [hx]
theorem bk_len {rs : List (Str × List Str)} (ho : RsOk' rs) {A : List Str} (h : Sub rs A) : ∀ {ts : List Str}, (∀ t ∈ ts, t ∈ rs.map (·.1)) → ts.length ≤ A.length → (bk rs ts A).length + ts.length = A.length
  | [], _, _ => rfl
  | t :: ts, ht, hl => by
    have ih := bk_len ho h (ts := ts) (fun x hx => ht x (List.mem_cons_of_mem _ hx)) (by rw [List.length_cons] at hl; omega)
    rw [List.length_cons] at hl ⊢
    have hne : bk rs ts A ≠ [] := by intro e; rw [e] at ih; simp at ih; omega
    obtain ⟨x, h1, h2, h3⟩ := stk_wst h.bk ho (ht t List.mem_cons_self) hne
    unfold bk
    rw [h3]
    have := rem_len (h.bk (ts := ts)).nd h2
    omega
theorem bkS_len {rs : List (Str × List Str)} (ho : RsOk' rs) {A : List Str} (h : Sub rs A) : ∀ {ts : List Str}, (∀ t ∈ ts, t ∈ rs.map (·.1)) → ts.length ≤ A.length → (bkS rs ts A).map (·.1) = ts.reverse
  | [], _, _ => rfl
  | t :: ts, ht, hl => by
    have hl' : ts.length < A.length := by rw [List.length_cons] at hl; omega
    have ht' : ∀ x ∈ ts, x ∈ rs.map (·.1) := fun x hx => ht x (List.mem_cons_of_mem _ hx)
    have ih := bkS_len ho h ht' (by omega)
    have h0 := bk_len ho h ht' (by omega)
    have hne : bk rs ts A ≠ [] := by intro e; rw [e] at h0; simp at h0; omega
    obtain ⟨x, h1, h2, h3⟩ := stk_wst h.bk ho (ht t List.mem_cons_self) hne
    rw [bkS_snoc, h1, List.map_append, ih, List.reverse_cons]
    rfl
theorem bkS_mem {rs : List (Str × List Str)} {A : List Str} : ∀ {ts : List Str} {q : Str × Str}, q ∈ bkS rs ts A → q.2 ∈ A ∧ q.1 ∈ ts
  | t :: ts, q, h => by
    rw [bkS_snoc, List.mem_append] at h
    rcases h with h | h
    · exact ⟨(bkS_mem h).1, List.mem_cons_of_mem _ (bkS_mem h).2⟩
    · split at h
      · rename_i x e
        obtain rfl := List.mem_singleton.1 h
        exact ⟨bk_sub (wst_mem e).2, List.mem_cons_self⟩
      · cases h
theorem bkS_nms {rs : List (Str × List Str)} {A ts : List Str} (ho : RsOk' rs) (h : Sub rs A) : Nms ((bkS rs ts A).map (·.2)) := fun m hm => by
  obtain ⟨q, hq, rfl⟩ := List.mem_map.1 hm
  exact h.nms ho _ (bkS_mem hq).1
/-- the outcome -/
abbrev outc (rs : List (Str × List Str)) (ts : List Str) : List Str := bk rs ts (dist (alt rs))
/-! ### games without alternatives -/
def cutR (rs : List (Str × List Str)) (ys : List Str) : List (Str × List Str) := rs.map fun p => (p.1, p.2.filter fun x => !decide (x ∈ ys))
theorem cutR_keys {rs : List (Str × List Str)} {ys : List Str} : (cutR rs ys).map (·.1) = rs.map (·.1) := by
  unfold cutR
  rw [List.map_map]
  rfl
theorem cutR_alt {rs : List (Str × List Str)} {ys : List Str} : alt (cutR rs ys) = (alt rs).filter fun x => !decide (x ∈ ys) := by
  cases rs with
  | nil => rfl
  | cons p rs => rfl
theorem cutR_look {rs : List (Str × List Str)} {ys : List Str} {p : Str} : look (cutR rs ys) p = (look rs p).filter fun x => !decide (x ∈ ys) := by
  induction rs with
  | nil => rfl
  | cons q rs ih =>
    unfold look cutR at ih ⊢
    rw [List.map_cons, List.find?_cons, List.find?_cons]
    by_cases h : q.1 = p
    · rw [decide_eq_true h]
      rfl
    · rw [decide_eq_false h]
      exact ih
theorem cutR_ok {rs : List (Str × List Str)} {ys : List Str} (h : RsOk' rs) : RsOk' (cutR rs ys) := by
  refine ⟨?_, fun p hp => ?_, by rw [cutR_keys]; exact h.nd, by rw [cutR_keys]; exact h.pw, fun p hp => ?_, fun p hp q hq => ?_, by unfold cutR; rw [List.length_map]; exact h.le⟩
  · unfold cutR
    rw [Ne, List.map_eq_nil_iff]
    exact h.ne
  · obtain ⟨q, hq, rfl⟩ := List.mem_map.1 hp
    exact h.nm q hq
  · obtain ⟨q, hq, rfl⟩ := List.mem_map.1 hp
    exact (h.rk q hq).filter
  · obtain ⟨p', hp', rfl⟩ := List.mem_map.1 hp
    obtain ⟨q', hq', rfl⟩ := List.mem_map.1 hq
    exact (h.sm p' hp' q' hq').filter _
theorem bk_cut {rs : List (Str × List Str)} {ys : List Str} {A : List Str} (hA : ∀ x ∈ A, x ∉ ys) : ∀ {ts : List Str}, bk (cutR rs ys) ts A = bk rs ts A
  | [] => rfl
  | t :: ts => by
    rw [bk_cons, bk_cons, bk_cut hA]
    unfold stk
    rw [cutR_look, wst_filter (fun x hx => by simp [hA x (bk_sub hx)])]
theorem sorted_eq {A B : List Str} (ha : A.Nodup) (hb : B.Nodup) (pa : A.Pairwise (fun a b => sle a b = true)) (pb : B.Pairwise (fun a b => sle a b = true)) (h : ∀ x, x ∈ A ↔ x ∈ B) : A = B :=
  perm_pw_eq (nodup_perm ha hb h) pa pb
theorem Sub.eq {rs rs' : List (Str × List Str)} {A B : List Str} (ha : Sub rs A) (hb : Sub rs' B) (h : ∀ x, x ∈ A ↔ x ∈ B) : A = B := sorted_eq ha.nd hb.nd ha.pw hb.pw h
/-- what is left of a game when the struck ones are taken out -/
theorem cut_all {rs : List (Str × List Str)} {A ys : List Str} (hA : Sub rs A) (hy : ∀ x ∈ alt rs, (x ∈ ys ↔ x ∉ A)) : Toy.dist (alt (cutR rs ys)) = A := by
  refine sorted_eq dist_nodup hA.nd dist_pw hA.pw fun x => ?_
  rw [dist_mem, cutR_alt, List.mem_filter]
  constructor
  · rintro ⟨h1, h2⟩
    have h3 := hy x h1
    by_cases h : x ∈ A
    · exact h
    · simp [h3.2 h] at h2
  · intro h
    have h1 := hA.sb x h
    exact ⟨h1, by simp [(hy x h1), h]⟩
/-! ### one alternative less -/
theorem rem_ne {A : List Str} {x y : Str} (h : y ∈ A) (hne : y ≠ x) : y ∈ rem A x := rem_mem.2 ⟨h, hne⟩
theorem wst_rem {xs A : List Str} {x w : Str} (hn : xs.Nodup) (h : wst xs A = some w) (hne : w ≠ x) : wst xs (rem A x) = some w := by
  have h1 := wst_mem h
  exact wst_of hn h1.1 (rem_ne h1.2 hne) fun y hy hA => wst_spec hn h y hy (rem_mem.1 hA).1
theorem one_less {rs : List (Str × List Str)} (ho : RsOk' rs) {A : List Str} (h : Sub rs A) {x : Str} (hx : x ∈ A) : ∀ {ts : List Str}, (∀ t ∈ ts, t ∈ rs.map (·.1)) → ts.length < A.length →
    ∃ y, y ∈ bk rs ts A ∧ bk rs ts (rem A x) = rem (bk rs ts A) y ∧ (x ∈ bk rs ts A → y = x)
  | [], _, _ => ⟨x, hx, rfl, fun _ => rfl⟩
  | t :: ts, ht, hl => by
    rw [List.length_cons] at hl
    have htp := ht t List.mem_cons_self
    have ht' : ∀ u ∈ ts, u ∈ rs.map (·.1) := fun u hu => ht u (List.mem_cons_of_mem _ hu)
    obtain ⟨y, h1, h2, h3⟩ := one_less ho h hx ht' (by omega)
    have hb := bk_len ho h ht' (by omega)
    have hB : Sub rs (bk rs ts A) := h.bk
    rw [bk_cons, bk_cons, h2]
    generalize bk rs ts A = B at *
    obtain ⟨w, w1, w2, w3⟩ := stk_wst hB ho htp (List.ne_nil_of_mem h1)
    have hnd := (ho.look_ok htp).nd
    by_cases e : w = y
    · subst e
      have hne : rem B w ≠ [] := by
        intro z
        have := rem_len hB.nd h1
        rw [z] at this
        simp at this
        omega
      obtain ⟨v, v1, v2, v3⟩ := stk_wst hB.rem ho htp hne
      refine ⟨v, by rw [w3]; exact v2, by rw [v3, w3], fun hx' => ?_⟩
      rw [w3] at hx'
      have h4 := rem_mem.1 hx'
      exact absurd (h3 h4.1).symm h4.2
    · have v1 := wst_rem (x := y) hnd w1 e
      refine ⟨y, by rw [w3]; exact rem_ne h1 (Ne.symm e), by rw [stk_eq v1, w3, rem_comm], fun hx' => ?_⟩
      rw [w3] at hx'
      exact h3 (rem_mem.1 hx').1
/-- what is left behind a strike x, with the turns ts still to come -/
abbrev aftr (rs : List (Str × List Str)) (x : Str) (ts : List Str) : List Str := bk rs ts (rem (dist (alt rs)) x)
theorem outc_cut {rs : List (Str × List Str)} {x : Str} {ts : List Str} (ho : RsOk' rs) (hx : x ∈ alt rs) : outc (cutR rs [x]) ts = aftr rs x ts := by
  have hS : Sub rs (dist (alt rs)) := Sub.all
  have e1 : dist (alt (cutR rs [x])) = rem (dist (alt rs)) x := cut_all hS.rem fun y hy => by
    rw [rem_mem, dist_mem, List.mem_singleton]
    simp [hy]
  unfold outc aftr
  rw [e1, bk_cut fun y hy => by rw [List.mem_singleton]; exact (rem_mem.1 hy).2]
theorem GOk.tail {rs : List (Str × List Str)} {ts : List Str} {t : Str} (h : GOk rs (t :: ts)) : GOk rs ts := ⟨h.ro, by have := h.tl; rw [List.length_cons] at this; omega, fun u hu => h.tm u (List.mem_cons_of_mem _ hu)⟩
theorem cut_len {rs : List (Str × List Str)} (ho : RsOk' rs) {x : Str} (hx : x ∈ alt rs) : (alt (cutR rs [x])).length + 1 = (alt rs).length := by
  rw [cutR_alt, ← rem_len ho.alt_ok.nd hx]
  unfold rem
  congr 2
  apply List.filter_congr
  intro y _
  simp
theorem GOk.after {rs : List (Str × List Str)} {ts : List Str} {t x : Str} (h : GOk rs (t :: ts)) (hx : x ∈ alt rs) : GOk (cutR rs [x]) ts := ⟨cutR_ok h.ro, by
  have := cut_len h.ro hx
  have := h.tl
  rw [List.length_cons] at this
  omega, by rw [cutR_keys]; exact h.tail.tm⟩
theorem GOk.tl_ {rs : List (Str × List Str)} {us ts : List Str} {t : Str} (h : GOk rs us) (hu : us = t :: ts) : GOk rs ts := GOk.tail (t := t) (hu ▸ h)
theorem GOk.af_ {rs : List (Str × List Str)} {us ts : List Str} {t x : Str} (h : GOk rs us) (hu : us = t :: ts) (hx : x ∈ alt rs) : GOk (cutR rs [x]) ts := GOk.after (t := t) (hu ▸ h) hx
/-- the lost member -/
theorem lost {rs : List (Str × List Str)} {ts : List Str} {t x : Str} (h : GOk rs (t :: ts)) (hx : x ∈ alt rs) : ∃ y, y ∈ outc rs ts ∧ aftr rs x ts = rem (outc rs ts) y ∧ (x ∈ outc rs ts → y = x) :=
  one_less h.ro Sub.all (dist_mem.2 hx) h.tail.tm (by
    have := h.tl
    rw [List.length_cons] at this
    rw [dist_nd_len h.ro.alt_ok.nd]
    omega)
theorem lost_one {A : List Str} {y : Str} (hn : A.Nodup) (hy : y ∈ A) : (A.filter fun z => !decide (z ∈ rem A y)) = [y] := by
  have e : (A.filter fun z => !decide (z ∈ rem A y)) = A.filter fun z => decide (z = y) := by
    apply List.filter_congr
    intro z hz
    by_cases h : z = y <;> simp [rem_mem, hz, h]
  rw [e]
  have hp : (A.filter fun z => decide (z = y)).Perm [y] := nodup_perm (hn.filter _) (by simp) fun z => by
    rw [List.mem_filter, List.mem_singleton]
    simp
    intro e
    rw [e]
    exact hy
  exact List.perm_singleton.1 hp
end Toy
end

section
set_option maxRecDepth 100000
set_option maxHeartbeats 4000000
/-! Mx5: simp rules for caught exceptions; an object of two fields made of a list that will be changed. -/
namespace Mr
open PySem L2 Dm
section
variable {Γ Γ1 : MEnv} {S S1 : Store} {a b : MS} {m : ME} {c c' : MCell} {d : Dat} {i k : Nat} {x : Val} {cs no : List Str} {ex : Exn} {r : Rs} {n f f2 cn : Str} {fs : List (Str × Dat)} {g : DM} {a1 a2 : Dat}
def tryAsK (cs no : List Str) (i : Nat) (suite : Exn → Nat → MS) : Rs → Rs
  | .ex x Γ1 S1 => match decide (x.cls ∈ cs) with
    | true => (suite x S1.length (Γ1.set i (some (.r S1.length))) (S1 ++ excS x)).drop i
    | false => match decide (x.cls ∈ no) with
      | true => .ex x Γ1 S1
      | false => .bad
  | r => r
theorem tryAs_app {m2 : Exn → Nat → MS} : tryAs cs no i b m2 Γ S = tryAsK cs no i m2 (b Γ S) := by
  unfold tryAs tryAsK
  rfl
@[simp] theorem tryAsK_rt {m2 : Exn → Nat → MS} : tryAsK cs no i m2 (.rt x S) = .rt x S := rfl
@[simp] theorem tryAsK_rn {m2 : Exn → Nat → MS} : tryAsK cs no i m2 (.rn c S) = .rn c S := rfl
@[simp] theorem tryAsK_nx {m2 : Exn → Nat → MS} : tryAsK cs no i m2 (.nx Γ S) = .nx Γ S := rfl
theorem tryAsK_ex {m2 : Exn → Nat → MS} (h : ex.cls ∈ cs) : tryAsK cs no i m2 (.ex ex Γ S) = (m2 ex S.length (Γ.set i (some (.r S.length))) (S ++ excS ex)).drop i := by
  show (match decide (ex.cls ∈ cs) with | true => _ | false => _) = _
  rw [decide_eq_true h]
@[simp] theorem tryAsK_ex1 {m2 : Exn → Nat → MS} {o : Option (List (Str × Dat))} : tryAsK [n] no i m2 (.ex ⟨n, o⟩ Γ S) = (m2 ⟨n, o⟩ S.length (Γ.set i (some (.r S.length))) (S ++ excS ⟨n, o⟩)).drop i := tryAsK_ex List.mem_cons_self
@[simp] theorem tryOnK_ex1 {m2 : MS} {o : Option (List (Str × Dat))} : tryOnK [n] no m2 (.ex ⟨n, o⟩ Γ S) = m2 Γ (S ++ excS ⟨n, o⟩) := tryOnK_ex List.mem_cons_self
@[simp] theorem drop_rt : (Rs.rt x S).drop i = .rt x S := rfl
@[simp] theorem drop_rn : (Rs.rn c S).drop i = .rn c S := rfl
@[simp] theorem drop_nx : (Rs.nx Γ S).drop i = .nx (Γ.set i none) S := rfl
@[simp] theorem excS_0 : excS ⟨n, none⟩ = [.gone] := rfl
@[simp] theorem excS_1 : excS ⟨n, some fs⟩ = [.gone, .xd fs] := rfl
@[simp] theorem noFs_0 {s : Str → Nat → MS} : noFs s ⟨n, none⟩ k = s n k := rfl
@[simp] theorem wFs_1 {s : Str → Nat → MS} : wFs s ⟨n, some fs⟩ k = s n k := rfl
theorem isxM_ok {b : Bool} (h : Γ[i]? = some (some (.r k))) : isxM i k b Γ S = .v (.p (dB b)) S := by
  unfold isxM
  rw [h]
  show (match decide (k = k) with | true => _ | false => _) = _
  rw [decide_eq_true rfl]
theorem isxFM_ok {b : Bool} (h : Γ[i]? = some (some (.r k))) (h2 : S[k + 1]? = some (.xd fs)) : isxFM i k b Γ S = .v (.p (dB b)) S := by
  unfold isxFM
  rw [h]
  show (match decide (k = k) with | true => isxF2 b S S[k + 1]? | false => _) = _
  rw [decide_eq_true rfl, h2]
  rfl
theorem xfM_ok (h : Γ[i]? = some (some (.r k))) (h2 : S[k + 1]? = some (.xd fs)) (h3 : fs.lookup f = some d) : xfM i k f Γ S = .v (.p d) S := by
  unfold xfM
  rw [h]
  show (match decide (k = k) with | true => xfM2 f S S[k + 1]? | false => _) = _
  rw [decide_eq_true rfl, h2]
  show (match fs.lookup f with | some d => XR.v (.p d) S | none => .bad) = _
  rw [h3]
@[simp] theorem lk_one : ([(f, d)] : List (Str × Dat)).lookup f = some d := by rw [List.lookup_cons, beq_self_eq_true]
@[simp] theorem get_app2 : (S ++ [c, c'])[S.length + 1]? = some c' := by
  rw [List.getElem?_append_right (by omega)]
  simp
@[simp] theorem apK_ex {ms : List ME} : apK ms Γ (.ex ex S) = .ex ex S := rfl
@[simp] theorem lstF_ex : lstF (.ex ex S) = .ex ex S := rfl
def parXK (i j : Nat) (Γ : MEnv) : AR → Rs
  | .a xs S1 => parX2 i j Γ xs S1
  | .ex e S1 => .ex e Γ S1
  | .bad => .bad
@[simp] theorem parXM_app {ma mb : ME} {j : Nat} : parXM i j ma mb Γ S = parXK i j Γ (argsM [ma, mb] Γ S) := by
  unfold parXM parXK
  rfl
@[simp] theorem parXK_a {y : Val} {j : Nat} : parXK i j Γ (.a [x, y] S) = .nx ((Γ.set i (some x)).set j (some y)) S := rfl
@[simp] theorem parXK_ex {j : Nat} : parXK i j Γ (.ex ex S) = .ex ex Γ S := rfl
def tryMixK (l : List MCl) : Rs → Rs
  | .ex x Γ1 S1 => hdlM l x Γ1 S1
  | r => r
theorem tryMix_app {l : List MCl} : tryMix l b Γ S = tryMixK l (b Γ S) := by
  unfold tryMix tryMixK
  rfl
@[simp] theorem tryMixK_rt {l : List MCl} : tryMixK l (.rt x S) = .rt x S := rfl
@[simp] theorem tryMixK_rn {l : List MCl} : tryMixK l (.rn c S) = .rn c S := rfl
@[simp] theorem tryMixK_nx {l : List MCl} : tryMixK l (.nx Γ S) = .nx Γ S := rfl
@[simp] theorem tryMixK_ex {l : List MCl} : tryMixK l (.ex ex Γ S) = hdlM l ex Γ S := rfl
@[simp] theorem hdl_hit {l : List MCl} {m2 : Exn → Nat → MS} {o : Option (List (Str × Dat))} : hdlM (⟨[n], no, some i, m2⟩ :: l) ⟨n, o⟩ Γ S = (m2 ⟨n, o⟩ S.length (Γ.set i (some (.r S.length))) (S ++ excS ⟨n, o⟩)).drop i := by
  unfold hdlM
  rw [decide_eq_true (show n ∈ [n] from List.mem_cons_self)]
@[simp] theorem hdl_hit0 {l : List MCl} {m2 : Exn → Nat → MS} {o : Option (List (Str × Dat))} : hdlM (⟨[n], no, none, m2⟩ :: l) ⟨n, o⟩ Γ S = m2 ⟨n, o⟩ S.length Γ (S ++ excS ⟨n, o⟩) := by
  unfold hdlM
  rw [decide_eq_true (show n ∈ [n] from List.mem_cons_self)]
theorem hdl_miss {l : List MCl} {m : MCl} (h : ex.cls ∉ m.cs) (h2 : ex.cls ∈ m.no) : hdlM (m :: l) ex Γ S = hdlM l ex Γ S := by
  conv => lhs; unfold hdlM
  rw [decide_eq_false h, decide_eq_true h2]
def raiseK (n f : Str) (Γ : MEnv) : AR → Rs
  | .a xs S1 => raiseF1 n f Γ xs S1
  | .ex e S1 => .ex e Γ S1
  | .bad => .bad
@[simp] theorem raiseFM_app {ms : List ME} : raiseFM n f ms Γ S = raiseK n f Γ (argsM ms Γ S) := by
  unfold raiseFM raiseK
  rfl
@[simp] theorem raiseK_a {xs : List Val} : raiseK n f Γ (.a xs S) = raiseF1 n f Γ xs S := rfl
@[simp] theorem raiseF1_p : raiseF1 n f Γ [.p d] S = .ex ⟨n, some [(f, d)]⟩ Γ S := rfl
theorem makeD_r2 (h : S[i]? = some c) (hc : flatC c = true) (hc' : flatC c' = true) (e : g [.r 1, .r 0] [c, .ins cn []] = .ret (.p dN) [c', .ins cn [(f, .p a1), (f2, .p a2)]]) : makeD cn g [.r i] S = .n (.ins cn [(f, .p a1), (f2, .p a2)]) (S.set i c') := by
  have hi := fp1 h
  show makeAt cn g _ S (clos S 64 [i] []) = _
  rw [clos1 h (flat_ref hc)]
  unfold makeAt
  rw [show fpOk S.length [i] = true by show (decide (i < S.length) && true && true) = true; rw [decide_eq_true hi]; rfl]
  dsimp only
  rw [show mapVs (renV [i]) [.r i] = some [.r 0] from mapVs_cons ren1 rfl, show subS S [i] = [c] by show [S.getD i .gone] = [c]; rw [List.getD_eq_getElem?_getD, h]; rfl]
  rw [show mapCs (renV [i]) [c] = some [c] by
    show (match mapC (renV [i]) c with | some c' => (match mapCs (renV [i]) [] with | some cs => some (c' :: cs) | none => none) | none => none) = _
    rw [flat_map hc]; rfl]
  dsimp only [List.length_cons, List.length_nil]
  rw [show g [.r (0 + 1), .r 0] ([c] ++ [.ins cn []]) = .ret (.p dN) [c', .ins cn [(f, .p a1), (f2, .p a2)]] from e]
  dsimp only [List.drop_succ_cons, List.drop_zero, List.take_succ_cons, List.take_zero]
  rw [backS1 hc', ← wr1]
  rfl
def invF (g : DM) (x : Val) (S : Store) : Bool → XR
  | true => (callD g [x] S).noX
  | false => .bad
@[simp] theorem invF_t : invF g x S true = (callD g [x] S).noX := rfl
def invK (cn : Str) (g : DM) (x : Val) (S : Store) : XR := invF g x S (recvP cn S x)
@[simp] theorem invK_app : invK cn g x S = invF g x S (recvP cn S x) := rfl
@[simp] theorem invO_app : invO cn g m Γ S = (m Γ S).get (invK cn g) := by
  unfold invO
  congr 1
theorem flatDs {xs : List Str} : valsD (xs.map dS) = some (xs.map V.str) := by
  induction xs with
  | nil => rfl
  | cons x xs ih =>
    show (match valsD (xs.map dS) with | some us => _ | none => none) = _
    rw [ih]
    rfl
theorem idx_nd {xs : List Str} {z : Str} (h : xs.Nodup) {i : Nat} (hi : xs[i]? = some z) : xs.findIdx? (fun x => decide (x = z)) = some i := by
  obtain ⟨hl, e⟩ := List.getElem?_eq_some_iff.1 hi
  rw [List.findIdx?_eq_some_iff_getElem]
  refine ⟨hl, by rw [e]; exact decide_eq_true rfl, fun j hj q => ?_⟩
  have q' := of_decide_eq_true q
  rw [← e] at q'
  have := List.pairwise_iff_getElem.1 h j i (by omega) hl hj
  exact this q'
theorem idxP_s {xs : List Str} {z : Str} (h : xs.Nodup) {i : Nat} (hi : xs[i]? = some z) : idxP (xs.map dS) [dS z] = .d (dI (i : Nat)) := by
  unfold idxP
  dsimp only
  rw [flatDs]
  dsimp only
  rw [show (flatV (.str z) && (xs.map V.str).all flatV) = true by
    rw [show flatV (.str z) = true from rfl, Bool.true_and, List.all_map]
    exact List.all_eq_true.2 fun _ _ => rfl]
  dsimp only
  rw [List.findIdx?_map, show ((fun z1 => eqV z1 (V.str z)) ∘ V.str) = fun x => decide (x = z) from rfl, idx_nd h hi]
theorem eqV_refl {x : V} (h : okV x = true) : eqV x x = true := by
  cases x with
  | non => rfl
  | bl b => cases b <;> rfl
  | int j => show decide (j = j) = true; exact decide_eq_true rfl
  | str z => show decide (z = z) = true; exact decide_eq_true rfl
  | byt b => cases h
  | flt b => cases h
  | ref b => cases h
  | ty b => cases h
mutual
theorem deq_refl : ∀ {d : Dat}, okD d = true → deq d d = true
  | .v x, h => eqV_refl h
  | .lst xs, h => deqs_refl (xs := xs) h
  | .tup xs, h => deqs_refl (xs := xs) h
  | .dK _, h => by cases h
  | .ins _ _, h => by cases h
  | .scr _, h => by cases h
  | .xd _, h => by cases h
  | .glb _, h => by cases h
theorem deqs_refl : ∀ {xs : List Dat}, okDs xs = true → deqs xs xs = true
  | [], _ => rfl
  | x :: xs, h => by
    have h' : (okD x && okDs xs) = true := h
    rw [Bool.and_eq_true] at h'
    show (deq x x && deqs xs xs) = true
    rw [deq_refl h'.1, deqs_refl h'.2]
    rfl
end
theorem pEq_self {neg : Bool} (h : okD d = true) (h2 : dpD d ≤ 64) : pEqN neg [d, d] = .d (dB (!neg)) := by
  rw [pEq_of h h h2 h2, deq_refl h]
  cases neg <;> rfl
theorem okDs_map {α : Type} {f : α → Dat} {xs : List α} (h : ∀ x ∈ xs, okD (f x) = true) : okDs (xs.map f) = true := by
  induction xs with
  | nil => rfl
  | cons x xs ih =>
    show (okD (f x) && okDs (xs.map f)) = true
    rw [h x List.mem_cons_self, ih fun y hy => h y (List.mem_cons_of_mem _ hy)]
    rfl
theorem dpDs_map {α : Type} {f : α → Dat} {xs : List α} {n : Nat} (h : ∀ x ∈ xs, dpD (f x) ≤ n) : dpDs (xs.map f) ≤ n := by
  induction xs with
  | nil => exact Nat.zero_le _
  | cons x xs ih => exact Nat.max_le.2 ⟨h x List.mem_cons_self, ih fun y hy => h y (List.mem_cons_of_mem _ hy)⟩
/-! a def that gives back -/
def Rt (r : Rs) (d : Dat) : Prop := ∃ S2, r = .rt (.p d) S2
theorem rt_seq (h : Ok (a Γ S) fun Γ1 S1 => Rt (b Γ1 S1) d) : Rt (seqM a b Γ S) d := by
  obtain ⟨Γ1, S1, e, S2, e2⟩ := h
  exact ⟨S2, by rw [seqM_app, e, seq_nx, e2]⟩
theorem rt_ret (e : m Γ S = .v (.p d) S1) : Rt (retM m Γ S) d := ⟨S1, by simp [e]⟩
theorem rt_fin (h : Rt r d) : fin 0 r = .ret (.p d) [] := by
  obtain ⟨S2, e⟩ := h
  rw [e]
  rfl
/-! with the store that is left -/
def Rx (r : Rs) (d : Dat) (S2 : Store) : Prop := r = .rt (.p d) S2
theorem rx_seq {S2 : Store} (h : Ok (a Γ S) fun Γ1 S1 => Rx (b Γ1 S1) d S2) : Rx (seqM a b Γ S) d S2 := by
  obtain ⟨Γ1, S1, e, e2⟩ := h
  show seqM a b Γ S = _
  rw [seqM_app, e, seq_nx]
  exact e2
theorem rx_ret (e : m Γ S = .v (.p d) S1) : Rx (retM m Γ S) d S1 := by
  show retM m Γ S = _
  simp [e]
theorem rx_fin {S2 : Store} {k : Nat} (h : Rx r d S2) : fin k r = .ret (.p d) (S2.take k) := by
  rw [show r = .rt (.p d) S2 from h]
  rfl
theorem mutNS_clr {ds : List Dat} (h : m Γ S = .n (.lst ds) S1) : mutNS clrP m [] Γ S = .nx Γ (S1 ++ [.lst []]) := by
  unfold mutNS
  rw [h]
  simp [clrP]
/-! a loop that leaves its names in their slots -/
theorem forL_I {mg : MG} {wp : List Nat} {I : MEnv → Store → Prop} {ds : List Dat} (hb : ∀ d ∈ ds, ∀ Γ S, I Γ S → ∃ Γ1, mg d Γ = some Γ1 ∧ Ok (b Γ1 S) fun Γ2 S2 => I (wipeE Γ2 wp) S2) : ∀ {Γ : MEnv} {S : Store}, I Γ S → Ok (forL mg wp b ds Γ S) I := by
  induction ds with
  | nil => exact fun h => ok_nx h
  | cons d ds ih =>
    intro Γ S h
    obtain ⟨Γ1, h1, Γ2, S2, h2, h3⟩ := hb d List.mem_cons_self Γ S h
    have := ih (fun e he => hb e (List.mem_cons_of_mem _ he)) h3
    unfold forL
    rw [h1]
    dsimp only
    rw [h2]
    exact this
theorem ok_forI {mi : MI} {mg : MG} {wp : List Nat} {I : MEnv → Store → Prop} {ds : List Dat} {Q : MEnv → Store → Prop} (e : mi Γ S = .ok ds S1) (h0 : I (wipeE Γ wp) S1) (hb : ∀ d ∈ ds, ∀ Γ S, I Γ S → ∃ Γ1, mg d Γ = some Γ1 ∧ Ok (b Γ1 S) fun Γ2 S2 => I (wipeE Γ2 wp) S2) (h : ∀ Γ2 S2, I Γ2 S2 → Q Γ2 S2) : Ok (forM mi mg wp b Γ S) Q := by
  obtain ⟨Γ2, S2, h1, h2⟩ := forL_I hb h0
  exact ⟨Γ2, S2, by rw [forM_app, e, forK_ok, h1], h Γ2 S2 h2⟩
/-! stores without references -/
def FlatS (S : Store) : Prop := ∀ c ∈ S, flatC c = true
theorem FlatS.set (h : FlatS S) {c : MCell} (hc : flatC c = true) : FlatS (S.set i c) := fun d hd => by
  rcases List.mem_or_eq_of_mem_set hd with q | q
  · exact h d q
  · rw [q]
    exact hc
theorem FlatS.snoc (h : FlatS S) {c : MCell} (hc : flatC c = true) : FlatS (S ++ [c]) := fun d hd => by
  rcases List.mem_append.1 hd with q | q
  · exact h d q
  · rw [List.mem_singleton.1 q]
    exact hc
theorem flatS_map {f : Val → Option Val} : ∀ {S : Store}, FlatS S → mapCs f S = some S
  | [], _ => rfl
  | c :: S, h => by
    show (match mapC f c with | some c' => (match mapCs f S with | some cs => some (c' :: cs) | none => none) | none => none) = _
    rw [flat_map (h c List.mem_cons_self), flatS_map fun d hd => h d (List.mem_cons_of_mem _ hd)]
theorem disp_flat {ps : List (ME × ME)} {kvs : List (Key × Dat)} (hS : FlatS S) (hp : pairsM ps Γ (S ++ [.dK []]) = some (kvs, S ++ [.dK []])) (hl : kvs.length ≤ 15) : dispM ps Γ S = .n (.dK (mkD kvs)) S := by
  unfold dispM
  rw [hp]
  dsimp only
  rw [decide_eq_true hl, List.drop_left, List.take_left]
  have : backS (List.range S.length) S = some S := by
    unfold backS
    rw [List.length_range, decide_eq_true rfl]
    exact flatS_map hS
  rw [this]
theorem mutD_clr {ds : List (Key × Dat)} (h : m Γ S = .v (.r k) S1) (hk : S1[k]? = some (.dK ds)) : mutD dClrP m [] Γ S = .v (.p dN) (S1.set k (.dK [])) := by
  unfold mutD
  rw [h]
  dsimp only
  rw [hk]
  dsimp only [argsP_nil]
  rw [hk]
  rfl
end
end Mr
end

section
set_option maxRecDepth 100000
set_option maxHeartbeats 4000000
/-! Th2: equal texts, dicts of texts; members that are moved up. -/
namespace Toy
open PySem L2 Dm Mr
@[simp] theorem pDictD_l {kvs : List (Key × Dat)} : pDictD [.dK kvs] = .n (.dK kvs) := rfl
theorem okD_s {x : Str} (h : isNm x = true) : okD (dS x) = true := isNm_ok h
theorem pEq_ss {neg : Bool} {x y : Str} (h : PyData.strOk x = true) (h2 : PyData.strOk y = true) : pEqN neg [dS x, dS y] = .d (dB (neg ^^ decide (x = y))) := by
  rw [pEq_of (show okD (dS x) = true from h) (show okD (dS y) = true from h2) (Nat.zero_le _) (Nat.zero_le _)]
  rfl
/-- == of a dict with texts as keys and the same dict -/
theorem deqK_self {f : Str → Dat} {L : List Str} (hf : ∀ x ∈ L, okD (f x) = true) : ∀ M : List Str, (∀ x ∈ M, x ∈ L) → deqK (L.map fun x => (Sum.inr x, f x)) (M.map fun x => (Sum.inr x, f x)) = true := by
  intro M
  induction M with
  | nil => intro _; rfl
  | cons x M ih =>
    intro h
    have hx := h x List.mem_cons_self
    have e : lookK (L.map fun x => (Sum.inr x, f x)) (Sum.inr x) = some (f x) := by
      have := lookK_map (rs := L.map fun x => (x, x)) (f := f) (p := x)
      rw [List.map_map] at this
      rw [show (L.map fun x => ((Sum.inr x : Key), f x)) = List.map ((fun q : Str × Str => ((Sum.inr q.1 : Key), f q.2)) ∘ fun x => (x, x)) L from rfl, this, List.find?_map]
      obtain ⟨y, hy⟩ : ∃ y, L.find? ((fun q : Str × Str => decide (q.1 = x)) ∘ fun x => (x, x)) = some y := by
        rw [← Option.isSome_iff_exists, List.find?_isSome]
        exact ⟨x, hx, by simp⟩
      have h2 := List.find?_some hy
      rw [hy]
      simp at h2
      subst h2
      rfl
    show (match lookK (L.map fun x => (Sum.inr x, f x)) (Sum.inr x) with | none => false | some e => deq (f x) e && deqK (L.map fun x => (Sum.inr x, f x)) (M.map fun x => (Sum.inr x, f x))) = true
    rw [e]
    dsimp only
    rw [ih fun y hy => h y (List.mem_cons_of_mem _ hy), deq_refl (hf x hx)]
    rfl
theorem pEqK_self {neg : Bool} {f : Str → Dat} {L : List Str} (hf : ∀ x ∈ L, okD (f x) = true) (hv : ∀ x ∈ L, valOk (f x) = true) : pEqK neg [.dK (L.map fun x => (Sum.inr x, f x)), .dK (L.map fun x => (Sum.inr x, f x))] = .d (dB (neg ^^ true)) := by
  have h2 : (L.map fun x => ((Sum.inr x : Key), f x)).all (fun p => valOk p.2) = true := by
    rw [List.all_map]
    exact List.all_eq_true.2 fun x hx => hv x hx
  unfold pEqK
  dsimp only
  rw [decide_eq_true rfl]
  dsimp only
  rw [h2, deqK_self hf L fun x hx => hx]
  rfl
/-! ### the account -/
/-- who strikes x -/
def own (qs : List (Str × Str)) (x : Str) : Str := ((qs.find? fun q => decide (q.2 = x)).map (·.1)).getD Str.empty
def accL (qs : List (Str × Str)) : List Str := srt (qs.map (·.2))
abbrev AC (qs : List (Str × Str)) : List (Key × Dat) := (accL qs).map fun x => (Sum.inr x, dS (own qs x))
theorem bkS_nodup {rs : List (Str × List Str)} {A : List Str} : ∀ {ts : List Str}, ((bkS rs ts A).map (·.2)).Nodup
  | [] => List.nodup_nil
  | t :: ts => by
    have ih := bkS_nodup (rs := rs) (A := A) (ts := ts)
    rw [bkS_snoc, List.map_append]
    cases e : wst (look rs t) (bk rs ts A) with
    | none => simpa using ih
    | some x =>
      have h1 := (wst_mem e).2
      rw [bk_filter, List.mem_filter] at h1
      dsimp only
      rw [List.nodup_append]
      refine ⟨ih, by simp, fun a ha b hb => ?_⟩
      have hb' : b = x := by simpa using hb
      rw [hb']
      intro z
      rw [z] at ha
      simp [ha] at h1
theorem own_mem {qs : List (Str × Str)} {x : Str} (h : x ∈ qs.map (·.2)) : ∃ q ∈ qs, q.2 = x ∧ own qs x = q.1 ∧ qs.find? (fun q => decide (q.2 = x)) = some q := by
  obtain ⟨q, hq, rfl⟩ := List.mem_map.1 h
  obtain ⟨y, hy⟩ : ∃ y, qs.find? (fun q' => decide (q'.2 = q.2)) = some y := by
    rw [← Option.isSome_iff_exists, List.find?_isSome]
    exact ⟨q, hq, by simp⟩
  refine ⟨y, List.mem_of_find?_eq_some hy, by simpa using List.find?_some hy, ?_, hy⟩
  unfold own
  rw [hy]
  rfl
/-! ### a member is moved up -/
/-- ys: xs with z moved up -/
def Rais (z : Str) (xs ys : List Str) : Prop := ∃ u v w, xs = u ++ w ++ z :: v ∧ ys = u ++ z :: (w ++ v)
theorem Rais.perm {z : Str} {xs ys : List Str} (h : Rais z xs ys) : ys.Perm xs := by
  obtain ⟨u, v, w, rfl, rfl⟩ := h
  rw [List.append_assoc]
  exact List.Perm.append_left u List.perm_middle.symm
theorem wst_tail {a v A : List Str} {x : Str} (h : wst v A = some x) : wst (a ++ v) A = some x := by
  unfold wst at *
  rw [List.filter_append, List.getLast?_append, h]
  rfl
theorem wst_app {a v A : List Str} (h : wst v A = none) : wst (a ++ v) A = wst a A := by
  unfold wst at *
  rw [List.filter_append, List.getLast?_append, h]
  rfl
theorem Rais.wst {z x : Str} {xs ys A : List Str} (h : Rais z xs ys) (hz : z ∈ A) (e : Toy.wst xs A = some x) (hx : x ≠ z) : Toy.wst ys A = some x := by
  obtain ⟨u, v, w, rfl, rfl⟩ := h
  have hv : Toy.wst v A = some x := by
    cases q : Toy.wst v A with
    | some y =>
      have := wst_tail (a := u ++ w ++ [z]) q
      rw [List.append_assoc, show [z] ++ v = z :: v from rfl, e] at this
      exact this.symm
    | none =>
      exfalso
      have := wst_app (a := u ++ w ++ [z]) q
      rw [List.append_assoc, show [z] ++ v = z :: v from rfl, e] at this
      have h2 := wst_tail (a := u ++ w) (v := [z]) (A := A) (x := z) (by unfold Toy.wst; simp [hz])
      rw [h2] at this
      exact hx (Option.some.inj this)
  have := wst_tail (a := u ++ z :: w) hv
  rw [List.append_assoc] at this
  exact this
/-- some players' rankings have z moved up -/
structure Upp (z : Str) (rs rs' : List (Str × List Str)) : Prop where
  ks : rs'.map (·.1) = rs.map (·.1)
  lk : ∀ p ∈ rs.map (·.1), look rs' p = look rs p ∨ Rais z (look rs p) (look rs' p)
theorem Upp.alt {z : Str} {rs rs' : List (Str × List Str)} (h : Upp z rs rs') (hn : (rs.map (·.1)).Nodup) : (Toy.alt rs').Perm (Toy.alt rs) := by
  cases rs with
  | nil =>
    have : rs' = [] := by simpa using h.ks
    rw [this]
  | cons p r =>
    cases rs' with
    | nil => have := h.ks; simp at this
    | cons q s =>
      have e1 := h.ks
      rw [List.map_cons, List.map_cons] at e1
      have e2 := (List.cons.inj e1).1
      have l1 : look (p :: r) p.1 = p.2 := by unfold look; rw [List.find?_cons, decide_eq_true rfl]; rfl
      have l2 : look (q :: s) p.1 = q.2 := by unfold look; rw [List.find?_cons, decide_eq_true e2]; rfl
      have := h.lk p.1 List.mem_cons_self
      rw [l1, l2] at this
      show q.2.Perm p.2
      rcases this with e | e
      · rw [e]
      · exact e.perm
theorem Upp.step {z : Str} {rs rs' : List (Str × List Str)} (h : Upp z rs rs') {A : List Str} (hz : z ∈ A) {p x : Str} (hp : p ∈ rs.map (·.1)) (e : wst (look rs p) A = some x) (hx : x ≠ z) : wst (look rs' p) A = some x := by
  rcases h.lk p hp with q | q
  · rw [q]; exact e
  · exact q.wst hz e hx
theorem Upp.pass {z : Str} {rs rs' : List (Str × List Str)} (h : Upp z rs rs') (ho : RsOk' rs) {A : List Str} (hS : Sub rs A) : ∀ {ts : List Str}, (∀ t ∈ ts, t ∈ rs.map (·.1)) → z ∈ bk rs ts A → bkS rs' ts A = bkS rs ts A ∧ bk rs' ts A = bk rs ts A
  | [], _, _ => ⟨rfl, rfl⟩
  | t :: ts, ht, hz => by
    have hz' : z ∈ bk rs ts A := stk_sub (p := t) hz
    obtain ⟨e1, e2⟩ := h.pass ho hS (ts := ts) (fun x hx => ht x (List.mem_cons_of_mem _ hx)) hz'
    obtain ⟨x, w1, w2, w3⟩ := stk_wst (hS.bk (ts := ts)) ho (ht t List.mem_cons_self) (List.ne_nil_of_mem hz')
    have hx : x ≠ z := by
      rintro rfl
      rw [bk_cons, w3] at hz
      exact (rem_mem.1 hz).2 rfl
    have w4 := h.step hz' (ht t List.mem_cons_self) w1 hx
    constructor
    · rw [bkS_snoc, bkS_snoc, e1, e2, w1, w4]
    · rw [bk_cons, bk_cons, e2, w3, stk_eq w4]
theorem Upp.outc {z : Str} {rs rs' : List (Str × List Str)} (h : Upp z rs rs') (ho : RsOk' rs) {ts : List Str} (ht : ∀ t ∈ ts, t ∈ rs.map (·.1)) (hz : z ∈ Toy.outc rs ts) : Toy.outc rs' ts = Toy.outc rs ts ∧ bkS rs' ts (Toy.dist (Toy.alt rs')) = bkS rs ts (Toy.dist (Toy.alt rs)) := by
  have e := dist_perm (h.alt ho.nd)
  have := h.pass ho Sub.all ht hz
  unfold Toy.outc
  rw [e]
  exact ⟨this.2, this.1⟩
/-! one key's value changed -/
def setR (rs : List (Str × List Str)) (p : Str) (ys : List Str) : List (Str × List Str) := rs.map fun q => if q.1 = p then (p, ys) else q
theorem setR_keys {rs : List (Str × List Str)} {p : Str} {ys : List Str} : (setR rs p ys).map (·.1) = rs.map (·.1) := by
  unfold setR
  rw [List.map_map]
  apply List.map_congr_left
  intro q _
  show (if q.1 = p then (p, ys) else q).1 = q.1
  split
  · rename_i e; exact e.symm
  · rfl
theorem setR_look {rs : List (Str × List Str)} {p k : Str} {ys : List Str} (hp : p ∈ rs.map (·.1)) : look (setR rs p ys) k = if k = p then ys else look rs k := by
  induction rs with
  | nil => cases hp
  | cons q rs ih =>
    unfold look setR at *
    rw [List.map_cons, List.find?_cons, List.find?_cons]
    by_cases e : q.1 = p
    · rw [if_pos e]
      by_cases hk : k = p
      · subst hk
        rw [decide_eq_true rfl, if_pos rfl]
        rfl
      · rw [decide_eq_false (show ¬ p = k from fun z => hk z.symm), decide_eq_false (show ¬ q.1 = k from fun z => hk (z.symm.trans e)), if_neg hk]
        dsimp only
        by_cases hm : p ∈ rs.map (·.1)
        · rw [ih hm, if_neg hk]
        · have : (rs.map fun q => if q.1 = p then (p, ys) else q) = rs := by
            conv => rhs; rw [← List.map_id rs]
            apply List.map_congr_left
            intro r hr
            rw [if_neg fun z => hm (List.mem_map.2 ⟨r, hr, z⟩)]
            rfl
          rw [this]
    · rw [if_neg e]
      have hm : p ∈ rs.map (·.1) := by
        rw [List.map_cons] at hp
        rcases List.mem_cons.1 hp with z | z
        · exact absurd z.symm e
        · exact z
      by_cases hk : q.1 = k
      · rw [decide_eq_true hk, if_neg (fun z => e (hk.trans z))]
      · rw [decide_eq_false hk]
        exact ih hm
theorem ok_keys {rs rs' : List (Str × List Str)} (h : RsOk' rs) (hk : rs'.map (·.1) = rs.map (·.1)) (hp : ∀ p ∈ rs.map (·.1), (look rs' p).Perm (look rs p)) : RsOk' rs' := by
  have nd : (rs'.map (·.1)).Nodup := by rw [hk]; exact h.nd
  have key : ∀ q ∈ rs', q.1 ∈ rs.map (·.1) := fun q hq => by rw [← hk]; exact List.mem_map.2 ⟨q, hq, rfl⟩
  have val : ∀ q ∈ rs', look rs' q.1 = q.2 := fun q hq => by
    obtain ⟨xs, h1, h2, h3⟩ := look_mem (rs := rs') (p := q.1) (List.mem_map.2 ⟨q, hq, rfl⟩)
    rw [h2]
    have : ∀ {l : List (Str × List Str)}, (l.map (·.1)).Nodup → (q.1, xs) ∈ l → q ∈ l → xs = q.2 := by
      intro l
      induction l with
      | nil => intro _ m; cases m
      | cons a l ih =>
        intro nd m1 m2
        rw [List.map_cons, List.nodup_cons] at nd
        rcases List.mem_cons.1 m1 with e1 | m1
        · rcases List.mem_cons.1 m2 with e2 | m2
          · rw [e2, ← e1]
          · exact absurd (List.mem_map.2 ⟨q, m2, by rw [← e1]⟩) nd.1
        · rcases List.mem_cons.1 m2 with e2 | m2
          · exact absurd (List.mem_map.2 ⟨_, m1, by rw [e2]⟩) nd.1
          · exact ih nd.2 m1 m2
    exact this nd h1 hq
  refine ⟨fun e => h.ne ?_, fun q hq => h.p_nm (key q hq), nd, by rw [hk]; exact h.pw, fun q hq => ?_, fun q hq r hr => ?_, ?_⟩
  · rw [e] at hk
    simpa using hk.symm
  · have h1 := h.look_ok (key q hq)
    have h2 := hp _ (key q hq)
    rw [val q hq] at h2
    exact ⟨fun m hm => h1.nm m (h2.mem_iff.1 hm), h2.nodup_iff.2 h1.nd, by rw [h2.length_eq]; exact h1.le⟩
  · have h2 := hp _ (key q hq)
    have h3 := hp _ (key r hr)
    rw [val q hq] at h2
    rw [val r hr] at h3
    exact (h2.trans (h.look_perm (key q hq))).trans ((h3.trans (h.look_perm (key r hr))).symm)
  · have := congrArg List.length hk
    rw [List.length_map, List.length_map] at this
    rw [this]
    exact h.le
theorem GOk.keys {rs rs' : List (Str × List Str)} {ts : List Str} (h : GOk rs ts) (hk : rs'.map (·.1) = rs.map (·.1)) (hp : ∀ p ∈ rs.map (·.1), (look rs' p).Perm (look rs p)) : GOk rs' ts := by
  have ho := ok_keys h.ro hk hp
  refine ⟨ho, ?_, by rw [hk]; exact h.tm⟩
  obtain ⟨p, r, e⟩ := ho.alt_mem
  have m : p ∈ rs'.map (·.1) := by rw [e]; exact List.mem_cons_self
  have m2 : p ∈ rs.map (·.1) := by rw [← hk]; exact m
  have := (ho.look_perm m).symm.trans ((hp p m2).trans (h.ro.look_perm m2))
  rw [this.length_eq]
  exact h.tl
theorem Upp.gok {z : Str} {rs rs' : List (Str × List Str)} {ts : List Str} (u : Upp z rs rs') (h : GOk rs ts) : GOk rs' ts := h.keys u.ks fun p hp => (u.lk p hp).elim (fun e => by rw [e]) fun e => e.perm
end Toy
end

section
set_option maxRecDepth 100000
set_option maxHeartbeats 4000000
namespace Toy
open PySem L2 Dm Mr
abbrev K_LETTERS : V := .str "abcdefghijklmnopqrstuvwxyz"
abbrev K_MAX_LETTERS : V := .int 8
abbrev K_MAX_NAMES : V := .int 30
def m__law_stream : DM := defM 5 2 (seqM (asgM 2 (conM (.int 0))) (seqM (ifS (tstM (opM pLt (varM 1) (callB pLen [(varM 0)]))) (asgM 2 (opM pIxL (varM 0) (varM 1))) nilM) (seqM (asgM 3 (callB pMax [(varM 2), (opM pSub (unM pNeg (conM (.int 1))) (varM 2))])) (seqM (asgM 4 (opM pMod (opM pMul (opM pAdd (opM pAdd (opM pAdd (opM pMod (varM 3) (conM (.int 2147483629))) (opM pMul (opM pMul (conM (.int 7919)) (varM 1)) (varM 1))) (opM pMul (conM (.int 31)) (varM 1))) (conM (.int 17))) (conM (.int 48271))) (conM (.int 2147483647)))) (retM (lstM [(opM pMul (varM 3) (callB pInt [(opM pGe (varM 3) (opM pPow (conM (.int 10)) (conM (.int 18))))])), (varM 4)]))))))
def m__law_draw : DM := defM 3 2 (seqM (ifS (tstM (opM pGt (opM pIxL (varM 0) (conM (.int 0))) (conM (.int 0)))) (seqM (asgM 2 (opM pMod (opM pIxL (varM 0) (conM (.int 0))) (varM 1))) (seqM (setL (varM 0) (conM (.int 0)) (opM pDiv (opM pIxL (varM 0) (conM (.int 0))) (varM 1))) (retM (varM 2)))) nilM) (seqM (setL (varM 0) (conM (.int 1)) (opM pMod (opM pAdd (opM pMul (opM pIxL (varM 0) (conM (.int 1))) (conM (.int 69621))) (conM (.int 7))) (conM (.int 2147483647)))) (retM (opM pMod (opM pDiv (opM pMod (opM pMul (opM pIxL (varM 0) (conM (.int 1))) (opM pIxL (varM 0) (conM (.int 1)))) (conM (.int 2147483629))) (conM (.int 32))) (varM 1)))))
def m__law_names : DM := defM 7 2 (seqM (asgM 2 (conM (.str "abcdefghijklmnopqrstuvwxyz"))) (seqM (asgT (mgT [(mgN 3), (mgN 4)]) (tupM [(callM m__law_draw [(varM 0), (conM (.int 26))]), (opM pIxL (lstM [(conM (.int 1)), (conM (.int 3)), (conM (.int 5)), (conM (.int 7)), (conM (.int 9)), (conM (.int 11)), (conM (.int 15)), (conM (.int 25))]) (callM m__law_draw [(varM 0), (conM (.int 8))]))])) (seqM (asgM 5 (callM m__law_draw [(varM 0), (conM (.int 7))])) (retM (lcM (itA fRng1 [(varM 1)]) (mgN 6) [6] yesT (opM pAddS (opM pMulS (opM pIxS (varM 2) (opM pMod (opM pAdd (varM 3) (opM pMul (varM 4) (varM 6))) (conM (.int 26)))) (opM pAdd (conM (.int 1)) (opM pMul (varM 5) (opM pMod (varM 6) (conM (.int 2)))))) (opM pMulS (conM (.str "q")) (opM pDiv (varM 6) (conM (.int 26))))))))))
def m__law_shuffled : DM := defM 5 2 (seqM (parM 2 3 true true (callB pList [(varM 1)]) (lstM [])) (seqM (forM (itA fRng1 [(callB pLen [(varM 1)])]) (mgN 4) [4] (dropM (mutL appP (varM 3) [(mutL popAtP (varM 2) [(callM m__law_draw [(varM 0), (callB pLen [(varM 2)])])])]))) (retM (varM 3))))
def m__law_choose : DM := defM 2 2 (retM (opM pIxL (varM 1) (callM m__law_draw [(varM 0), (callB pLen [(varM 1)])])))
def m__law_drawn : DM := defM 11 3 (seqM (asgM 3 (callM m__law_names [(varM 0), (opM pAdd (conM (.int 1)) (callM m__law_draw [(varM 0), (varM 1)]))])) (seqM (asgM 4 (slM (lstM [(conM (.str "ann")), (conM (.str "bob")), (conM (.str "cy")), (conM (.str "dee"))]) noPart (part (opM pAdd (conM (.int 1)) (callM m__law_draw [(varM 0), (varM 2)]))))) (seqM (asgM 5 (callM m__law_shuffled [(varM 0), (varM 3)])) (seqM (asgC 6 dnewM) (seqM (forM (itX fList (varM 4)) (mgN 7) [7, 8] (seqM (asgM 8 (callM m__law_draw [(varM 0), (conM (.int 4))])) (setD (varM 6) (varM 7) (opM pIxL (lstM [(callM m__law_shuffled [(varM 0), (varM 3)]), (varM 5), (revM (varM 5)), (callM m__law_shuffled [(varM 0), (varM 3)])]) (varM 8))))) (seqM (asgM 9 (lcM (itA fRng1 [(callM m__law_draw [(varM 0), (opM pAdd (callB pLen [(varM 3)]) (conM (.int 1)))])]) (mgN 10) [10] yesT (callM m__law_choose [(varM 0), (varM 4)]))) (retM (lstM [(varM 6), (varM 9)]))))))))
def m_is_name : DM := defM 2 1 (seqM (ifS (orT (notT (tstM (callB pIsi [(varM 0), (conM (.ty "str"))]))) (notT (tstM (chI (fun i j => decide (i ≤ j)) (fun i j => decide (i ≤ j)) (conM (.int 1)) (callB pLen [(varM 0)]) (conM K_MAX_LETTERS))))) (retM (conM (.bl false))) nilM) (retM (callB pAll [(lcM (itX fStr (varM 0)) (mgN 1) [1] yesT (opM pInS (varM 1) (conM K_LETTERS)))])))
def m_Committee___eq__ : DM := defM 2 2 (retM (andM (callB pIsi [(varM 1), (glbM "Committee")]) (opM pEq (fldM "Committee" "own_members" (varM 0)) (fldM "Committee" "own_members" (varM 1)))))
def m_distinct : DM := defM 2 1 (retM (callB pSortD [(dcM (itX fList (varM 0)) (mgN 1) [1] yesT (varM 1) (conM (.bl true)))]))
def m_are_names : DM := defM 2 1 (retM (andM (callB pIsi [(varM 0), (conM (.ty "list"))]) (callB pAll [(lcM (itX fList (varM 0)) (mgN 1) [1] yesT (callM m_is_name [(varM 1)]))])))
def m_Committee___init__ : DM := defM 2 2 (seqM (ifS (orT (notT (tstM (callM m_are_names [(varM 1)]))) (tstM (opM pGt (callB pLen [(callM m_distinct [(varM 1)])]) (conM K_MAX_NAMES)))) (raiseM "InvalidCommittee") nilM) (fldS "Committee" "own_members" (varM 0) (callM m_distinct [(varM 1)])))
def m_Ranking_alternatives : DM := defM 1 1 (retM (callB pList [(fldM "Ranking" "order" (varM 0))]))
def m_as_committee : DM := defM 1 1 (retM (makeM "Committee" m_Committee___init__ [(propM "Ranking" m_Ranking_alternatives (varM 0))]))
def m_check_rankings : DM := defM 4 1 (seqM (ifS (orT (notT (tstM (callB pIsi [(varM 0), (conM (.ty "dict"))]))) (tstM (opM (pEqK false) (varM 0) dnewM))) (raiseM "InvalidGame") nilM) (seqM (ifS (notT (tstM (callB pAll [(lcM (itX fItems (varM 0)) (mgT [(mgN 2), (mgN 3)]) [2, 3] yesT (andM (callM m_is_name [(varM 2)]) (callB pIsi [(varM 3), (glbM "Ranking")])))]))) (raiseM "InvalidGame") nilM) (seqM (asgM 1 (opM pIxL (listVM (varM 0)) (conM (.int 0)))) (ifS (notT (tstM (callB pAll [(lcM (itX fVals (varM 0)) (mgN 3) [3] yesT (eqO "Committee" m_Committee___eq__ false (callM m_as_committee [(varM 3)]) (callM m_as_committee [(varM 1)])))]))) (raiseM "InvalidGame") nilM))))
def m_Turns___len__ : DM := defM 1 1 (retM (callB pLen [(fldM "Turns" "order" (varM 0))]))
def m_Game_first_ranking : DM := defM 1 1 (retM (opM pIxL (listVM (fldM "Game" "own_rankings" (varM 0))) (conM (.int 0))))
def m_Ranking___len__ : DM := defM 1 1 (retM (callB pLen [(fldM "Ranking" "order" (varM 0))]))
def m_Turns_players : DM := defM 1 1 (retM (callB pList [(fldM "Turns" "order" (varM 0))]))
def m_Game_check_turns : DM := defM 3 2 (seqM (ifS (orT (notT (tstM (callB pIsi [(varM 1), (glbM "Turns")]))) (tstM (opM pGt (lenO "Turns" m_Turns___len__ [(varM 1)]) (lenO "Ranking" m_Ranking___len__ [(methM "Game" "first_ranking" m_Game_first_ranking (varM 0) [])])))) (raiseM "InvalidTurns") nilM) (ifS (notT (tstM (callB pAll [(lcM (itX fList (propM "Turns" m_Turns_players (varM 1))) (mgN 2) [2] yesT (dinM false (varM 2) (fldM "Game" "own_rankings" (varM 0))))]))) (raiseM "InvalidTurns") nilM))
def m_Game___init__ : DM := defM 4 3 (seqM (dropM (callM m_check_rankings [(varM 1)])) (seqM (fldS "Game" "own_rankings" (varM 0) (dcM (itX fList (callB pSortD [(varM 1)])) (mgN 3) [3] yesT (varM 3) (dgetM (varM 1) (varM 3)))) (seqM (dropM (methM "Game" "check_turns" m_Game_check_turns (varM 0) [(varM 2)])) (fldS "Game" "own_turns" (varM 0) (varM 2)))))
def m_Turns___init__ : DM := defM 2 2 (seqM (ifS (orT (notT (tstM (callM m_are_names [(varM 1)]))) (tstM (opM pGt (callB pLen [(varM 1)]) (conM K_MAX_NAMES)))) (raiseM "InvalidTurns") nilM) (fldS "Turns" "order" (varM 0) (callB pList [(varM 1)])))
def m_Ranking___init__ : DM := defM 4 2 (seqM (ifS (orT (notT (tstM (callM m_are_names [(varM 1)]))) (tstM (opM pGt (callB pLen [(varM 1)]) (conM K_MAX_NAMES)))) (raiseM "InvalidRanking") nilM) (seqM (ifS (tstM (opM pNe (callB pLen [(callM m_distinct [(varM 1)])]) (callB pLen [(varM 1)]))) (raiseM "InvalidRanking") nilM) (seqM (fldS "Ranking" "order" (varM 0) (callB pList [(varM 1)])) (fldS "Ranking" "places" (varM 0) (dcM (itA fEnum [(fldM "Ranking" "order" (varM 0))]) (mgT [(mgN 2), (mgN 3)]) [2, 3] yesT (varM 3) (varM 2))))))
def m__law_made : DM := defM 4 1 (seqM (asgT (mgL [(mgN 1), (mgN 2)]) (varM 0)) (retM (makeM "Game" m_Game___init__ [(callB pDictP [(lcM (itX fKeys (varM 1)) (mgN 3) [3] yesT (tupM [(varM 3), (makeM "Ranking" m_Ranking___init__ [(dgetM (varM 1) (varM 3))])]))]), (makeM "Turns" m_Turns___init__ [(varM 2)])])))
def m_Committee___sub__ : DM := defM 3 2 (retM (makeM "Committee" m_Committee___init__ [(lcM (itX fList (fldM "Committee" "own_members" (varM 0))) (mgN 2) [2] (tstM (opM pNin (varM 2) (fldM "Committee" "own_members" (varM 1)))) (varM 2))]))
def m_Game_alternatives : DM := defM 1 1 (retM (callM m_as_committee [(methM "Game" "first_ranking" m_Game_first_ranking (varM 0) [])]))
def m_Game_turns : DM := defM 1 1 (retM (fldM "Game" "own_turns" (varM 0)))
def m_Committee_members : DM := defM 1 1 (retM (callB pList [(fldM "Committee" "own_members" (varM 0))]))
def m_Ranking___and__ : DM := defM 3 2 (retM (makeM "Ranking" m_Ranking___init__ [(lcM (itX fList (fldM "Ranking" "order" (varM 0))) (mgN 2) [2] (tstM (opM pIn (varM 2) (propM "Committee" m_Committee_members (varM 1)))) (varM 2))]))
def m_is_number : DM := defM 3 3 (retM (andM (callB pIsi [(varM 0), (conM (.ty "int"))]) (andM (notM (callB pIsi [(varM 0), (conM (.ty "bool"))])) (chI (fun i j => decide (i ≤ j)) (fun i j => decide (i ≤ j)) (varM 1) (varM 0) (varM 2)))))
def m_Ranking___getitem__ : DM := defM 2 2 (seqM (ifS (notT (tstM (callM m_is_number [(varM 1), (conM (.int 0)), (opM pSub (callB pLen [(fldM "Ranking" "order" (varM 0))]) (conM (.int 1)))]))) (raiseFM "NoPlace" "number" [(varM 1)]) nilM) (retM (opM pIxL (fldM "Ranking" "order" (varM 0)) (varM 1))))
def m_Ranking_worst : DM := defM 3 2 (seqM (asgM 2 (binO "Ranking" m_Ranking___and__ ["Committee"] false (varM 0) (varM 1))) (retM (ifM (tstM (opM pGt (lenO "Ranking" m_Ranking___len__ [(varM 2)]) (conM (.int 0)))) (ixO "Ranking" m_Ranking___getitem__ (varM 2) (opM pSub (lenO "Ranking" m_Ranking___len__ [(varM 2)]) (conM (.int 1)))) (conM .non))))
def m_Game_ranking_of : DM := defM 2 2 (seqM (ifS (orT (notT (tstM (callM m_is_name [(varM 1)]))) (tstM (dinM true (varM 1) (fldM "Game" "own_rankings" (varM 0))))) (raiseFM "UnknownName" "name" [(varM 1)]) nilM) (retM (dgetM (fldM "Game" "own_rankings" (varM 0)) (varM 1))))
def m_backward_pass : DM := defM 5 1 (seqM (asgC 1 (lstM [])) (seqM (asgM 2 (propM "Game" m_Game_alternatives (varM 0))) (seqM (forM (itX fList (revM (propM "Turns" m_Turns_players (propM "Game" m_Game_turns (varM 0))))) (mgN 3) [3, 4] (seqM (asgM 4 (methM "Ranking" "worst" m_Ranking_worst (methM "Game" "ranking_of" m_Game_ranking_of (varM 0) [(varM 3)]) [(varM 2)])) (seqM (dropM (mutL appP (varM 1) [(tupM [(varM 3), (varM 4)])])) (asgM 2 (binO "Committee" m_Committee___sub__ [] false (varM 2) (makeM "Committee" m_Committee___init__ [(lstM [(varM 4)])])))))) (retM (varM 1)))))
def m_outcome : DM := defM 3 1 (retM (binO "Committee" m_Committee___sub__ [] false (propM "Game" m_Game_alternatives (varM 0)) (makeM "Committee" m_Committee___init__ [(lcM (itX fList (callM m_backward_pass [(varM 0)])) (mgT [(mgN 1), (mgN 2)]) [1, 2] yesT (varM 2))])))
def m_account : DM := defM 4 1 (seqM (asgM 1 (dcM (itX fList (callM m_backward_pass [(varM 0)])) (mgT [(mgN 2), (mgN 3)]) [2, 3] yesT (varM 3) (varM 2))) (retM (dcM (itX fList (callB pSortD [(varM 1)])) (mgN 3) [3] yesT (varM 3) (dgetM (varM 1) (varM 3)))))
def m__law_raised : DM := defM 6 3 (seqM (asgM 3 (callM m__law_draw [(varM 0), (opM pAdd (bmR idxP (varM 1) [(varM 2)]) (conM (.int 1)))])) (seqM (asgM 4 (lcM (itX fList (varM 1)) (mgN 5) [5] (tstM (opM pNe (varM 5) (varM 2))) (varM 5))) (retM (opM pCat (opM pCat (slM (varM 4) noPart (part (varM 3))) (lstM [(varM 2)])) (slM (varM 4) (part (varM 3)) noPart)))))
def m_law : DM := defM 13 1 (seqM (forM (itA fRng1 [(callB pMax [(conM (.int 1)), (callB pMin [(conM (.int 8)), (callB pLen [(varM 0)])])])]) (mgN 1) [1, 2, 3, 4, 5, 6, 7, 8, 9, 10, 11, 12] (seqM (asgC 2 (callM m__law_stream [(varM 0), (varM 1)])) (forM (itA fRng1 [(conM (.int 3))]) (mgN 3) [3, 4, 5, 6, 7, 8, 9, 10, 11, 12] (seqM (asgM 4 (callM m__law_drawn [(varM 2), (conM (.int 9)), (conM (.int 4))])) (seqM (asgM 5 (callM m__law_made [(varM 4)])) (seqM (parXM 6 7 (callM m_outcome [(varM 5)]) (callM m_account [(varM 5)])) (forM (itX fList (propM "Committee" m_Committee_members (varM 6))) (mgN 8) [8, 9, 10, 11, 12] (seqM (asgC 9 dnewM) (seqM (forM (itX fKeys (opM pIxL (varM 4) (conM (.int 0)))) (mgN 10) [10, 11, 12] (seqM (asgC 11 (callB pDictD [(opM pIxL (varM 4) (conM (.int 0)))])) (seqM (setD (varM 11) (varM 10) (callM m__law_raised [(varM 2), (dgetM (opM pIxL (varM 4) (conM (.int 0))) (varM 10)), (varM 8)])) (seqM (setD (varM 9) (varM 10) (dgetM (varM 11) (varM 10))) (seqM (asgM 12 (callM m__law_made [(lstM [(varM 11), (opM pIxL (varM 4) (conM (.int 1)))])])) (ifS (orT (tstM (eqO "Committee" m_Committee___eq__ true (callM m_outcome [(varM 12)]) (varM 6))) (tstM (opM (pEqK true) (callM m_account [(varM 12)]) (varM 7)))) (retM (conM (.bl false))) nilM)))))) (seqM (asgM 12 (callM m__law_made [(lstM [(varM 9), (opM pIxL (varM 4) (conM (.int 1)))])])) (ifS (orT (tstM (eqO "Committee" m_Committee___eq__ true (callM m_outcome [(varM 12)]) (varM 6))) (tstM (opM (pEqK true) (callM m_account [(varM 12)]) (varM 7)))) (retM (conM (.bl false))) nilM))))))))))) (retM (conM (.bl true))))
end Toy
end

section
set_option maxRecDepth 100000
set_option maxHeartbeats 4000000
namespace Toy
open PySem L2 Dm Mr
def top (i : Nat) : Stmt := PySem.Challenge.pw_fewleft_k27_whole_raised_members.main.body.getD i (.Pass ⟨0, 0, 0, 0⟩)
def PG : Program := PySem.Challenge.pw_fewleft_k27_whole_raised_members
abbrev s_NoPlace___init__ : Stmt := inClass (top 8) 0
theorem isInit_NoPlace : SupX.IsInit "number" "there is no such place" (defArgs s_NoPlace___init__) (defBody s_NoPlace___init__) (defScope s_NoPlace___init__) := ⟨_, _, _, _, _, _, _, _, _, _, _, _, _, rfl, rfl, rfl, rfl⟩
abbrev s_UnknownName___init__ : Stmt := inClass (top 7) 0
theorem isInit_UnknownName : SupX.IsInit "name" "this is not one of the names" (defArgs s_UnknownName___init__) (defBody s_UnknownName___init__) (defScope s_UnknownName___init__) := ⟨_, _, _, _, _, _, _, _, _, _, _, _, _, rfl, rfl, rfl, rfl⟩
abbrev s__law_stream : Stmt := top 34
abbrev N__law_stream : List Str := ["_law_script", "_law_k", "_law_cell", "_law_size", "_law_mixed"]
theorem sc__law_stream : FnScope N__law_stream ["_law_script", "_law_k"] (defScope s__law_stream) := ⟨rfl, rfl, rfl, by decide +kernel, rfl, by decide +kernel, by decide +kernel⟩
abbrev s__law_draw : Stmt := top 35
abbrev N__law_draw : List Str := ["_law_stream_here", "_law_count", "_law_result"]
theorem sc__law_draw : FnScope N__law_draw ["_law_stream_here", "_law_count"] (defScope s__law_draw) := ⟨rfl, rfl, rfl, by decide +kernel, rfl, by decide +kernel, by decide +kernel⟩
abbrev s__law_names : Stmt := top 37
abbrev N__law_names : List Str := ["_law_stream_here", "_law_count", "_law_every", "_law_begin", "_law_step", "_law_long", "_law_number"]
theorem sc__law_names : FnScope N__law_names ["_law_stream_here", "_law_count"] (defScope s__law_names) := ⟨rfl, rfl, rfl, by decide +kernel, rfl, by decide +kernel, by decide +kernel⟩
abbrev s__law_shuffled : Stmt := top 38
abbrev N__law_shuffled : List Str := ["_law_stream_here", "_law_names_here", "_law_left", "_law_result", "_law_turn"]
theorem sc__law_shuffled : FnScope N__law_shuffled ["_law_stream_here", "_law_names_here"] (defScope s__law_shuffled) := ⟨rfl, rfl, rfl, by decide +kernel, rfl, by decide +kernel, by decide +kernel⟩
abbrev s__law_choose : Stmt := top 36
abbrev N__law_choose : List Str := ["_law_stream_here", "_law_items"]
theorem sc__law_choose : FnScope N__law_choose ["_law_stream_here", "_law_items"] (defScope s__law_choose) := ⟨rfl, rfl, rfl, by decide +kernel, rfl, by decide +kernel, by decide +kernel⟩
abbrev s__law_drawn : Stmt := top 39
abbrev N__law_drawn : List Str := ["_law_stream_here", "_law_most", "_law_players", "_law_names_here", "_law_movers", "_law_first", "_law_rankings", "_law_mover", "_law_way", "_law_turns", "_law_turn"]
theorem sc__law_drawn : FnScope N__law_drawn ["_law_stream_here", "_law_most", "_law_players"] (defScope s__law_drawn) := ⟨rfl, rfl, rfl, by decide +kernel, rfl, by decide +kernel, by decide +kernel⟩
abbrev s_is_name : Stmt := top 14
abbrev N_is_name : List Str := ["candidate", "letter"]
theorem sc_is_name : FnScope N_is_name ["candidate"] (defScope s_is_name) := ⟨rfl, rfl, rfl, by decide +kernel, rfl, by decide +kernel, by decide +kernel⟩
abbrev s_Committee___eq__ : Stmt := inClass (top 19) 4
abbrev N_Committee___eq__ : List Str := ["self", "other"]
theorem sc_Committee___eq__ : FnScope N_Committee___eq__ ["self", "other"] (defScope s_Committee___eq__) := ⟨rfl, rfl, rfl, by decide +kernel, rfl, by decide +kernel, by decide +kernel⟩
abbrev s_distinct : Stmt := top 17
abbrev N_distinct : List Str := ["names", "name"]
theorem sc_distinct : FnScope N_distinct ["names"] (defScope s_distinct) := ⟨rfl, rfl, rfl, by decide +kernel, rfl, by decide +kernel, by decide +kernel⟩
abbrev s_are_names : Stmt := top 15
abbrev N_are_names : List Str := ["candidate", "name"]
theorem sc_are_names : FnScope N_are_names ["candidate"] (defScope s_are_names) := ⟨rfl, rfl, rfl, by decide +kernel, rfl, by decide +kernel, by decide +kernel⟩
abbrev s_Committee___init__ : Stmt := inClass (top 19) 0
abbrev N_Committee___init__ : List Str := ["self", "names"]
theorem sc_Committee___init__ : FnScope N_Committee___init__ ["self", "names"] (defScope s_Committee___init__) := ⟨rfl, rfl, rfl, by decide +kernel, rfl, by decide +kernel, by decide +kernel⟩
abbrev s_Ranking_alternatives : Stmt := inClass (top 25) 1
abbrev N_Ranking_alternatives : List Str := ["self"]
theorem sc_Ranking_alternatives : FnScope N_Ranking_alternatives ["self"] (defScope s_Ranking_alternatives) := ⟨rfl, rfl, rfl, by decide +kernel, rfl, by decide +kernel, by decide +kernel⟩
abbrev s_as_committee : Stmt := top 27
abbrev N_as_committee : List Str := ["ranking"]
theorem sc_as_committee : FnScope N_as_committee ["ranking"] (defScope s_as_committee) := ⟨rfl, rfl, rfl, by decide +kernel, rfl, by decide +kernel, by decide +kernel⟩
abbrev s_check_rankings : Stmt := top 31
abbrev N_check_rankings : List Str := ["rankings", "first", "player", "ranking"]
theorem sc_check_rankings : FnScope N_check_rankings ["rankings"] (defScope s_check_rankings) := ⟨rfl, rfl, rfl, by decide +kernel, rfl, by decide +kernel, by decide +kernel⟩
abbrev s_Turns___len__ : Stmt := inClass (top 29) 2
abbrev N_Turns___len__ : List Str := ["self"]
theorem sc_Turns___len__ : FnScope N_Turns___len__ ["self"] (defScope s_Turns___len__) := ⟨rfl, rfl, rfl, by decide +kernel, rfl, by decide +kernel, by decide +kernel⟩
abbrev s_Game_first_ranking : Stmt := inClass (top 32) 2
abbrev N_Game_first_ranking : List Str := ["self"]
theorem sc_Game_first_ranking : FnScope N_Game_first_ranking ["self"] (defScope s_Game_first_ranking) := ⟨rfl, rfl, rfl, by decide +kernel, rfl, by decide +kernel, by decide +kernel⟩
abbrev s_Ranking___len__ : Stmt := inClass (top 25) 2
abbrev N_Ranking___len__ : List Str := ["self"]
theorem sc_Ranking___len__ : FnScope N_Ranking___len__ ["self"] (defScope s_Ranking___len__) := ⟨rfl, rfl, rfl, by decide +kernel, rfl, by decide +kernel, by decide +kernel⟩
abbrev s_Turns_players : Stmt := inClass (top 29) 1
abbrev N_Turns_players : List Str := ["self"]
theorem sc_Turns_players : FnScope N_Turns_players ["self"] (defScope s_Turns_players) := ⟨rfl, rfl, rfl, by decide +kernel, rfl, by decide +kernel, by decide +kernel⟩
abbrev s_Game_check_turns : Stmt := inClass (top 32) 1
abbrev N_Game_check_turns : List Str := ["self", "turns", "player"]
theorem sc_Game_check_turns : FnScope N_Game_check_turns ["self", "turns"] (defScope s_Game_check_turns) := ⟨rfl, rfl, rfl, by decide +kernel, rfl, by decide +kernel, by decide +kernel⟩
abbrev s_Game___init__ : Stmt := inClass (top 32) 0
abbrev N_Game___init__ : List Str := ["self", "rankings", "turns", "player"]
theorem sc_Game___init__ : FnScope N_Game___init__ ["self", "rankings", "turns"] (defScope s_Game___init__) := ⟨rfl, rfl, rfl, by decide +kernel, rfl, by decide +kernel, by decide +kernel⟩
abbrev s_Turns___init__ : Stmt := inClass (top 29) 0
abbrev N_Turns___init__ : List Str := ["self", "players"]
theorem sc_Turns___init__ : FnScope N_Turns___init__ ["self", "players"] (defScope s_Turns___init__) := ⟨rfl, rfl, rfl, by decide +kernel, rfl, by decide +kernel, by decide +kernel⟩
abbrev s_Ranking___init__ : Stmt := inClass (top 25) 0
abbrev N_Ranking___init__ : List Str := ["self", "alternatives", "place", "name"]
theorem sc_Ranking___init__ : FnScope N_Ranking___init__ ["self", "alternatives"] (defScope s_Ranking___init__) := ⟨rfl, rfl, rfl, by decide +kernel, rfl, by decide +kernel, by decide +kernel⟩
abbrev s__law_made : Stmt := top 40
abbrev N__law_made : List Str := ["_law_drawn_here", "_law_rankings", "_law_turns", "_law_player"]
theorem sc__law_made : FnScope N__law_made ["_law_drawn_here"] (defScope s__law_made) := ⟨rfl, rfl, rfl, by decide +kernel, rfl, by decide +kernel, by decide +kernel⟩
abbrev s_Committee___sub__ : Stmt := inClass (top 19) 8
abbrev N_Committee___sub__ : List Str := ["self", "other", "name"]
theorem sc_Committee___sub__ : FnScope N_Committee___sub__ ["self", "other"] (defScope s_Committee___sub__) := ⟨rfl, rfl, rfl, by decide +kernel, rfl, by decide +kernel, by decide +kernel⟩
abbrev s_Game_alternatives : Stmt := inClass (top 32) 5
abbrev N_Game_alternatives : List Str := ["self"]
theorem sc_Game_alternatives : FnScope N_Game_alternatives ["self"] (defScope s_Game_alternatives) := ⟨rfl, rfl, rfl, by decide +kernel, rfl, by decide +kernel, by decide +kernel⟩
abbrev s_Game_turns : Stmt := inClass (top 32) 4
abbrev N_Game_turns : List Str := ["self"]
theorem sc_Game_turns : FnScope N_Game_turns ["self"] (defScope s_Game_turns) := ⟨rfl, rfl, rfl, by decide +kernel, rfl, by decide +kernel, by decide +kernel⟩
abbrev s_Committee_members : Stmt := inClass (top 19) 1
abbrev N_Committee_members : List Str := ["self"]
theorem sc_Committee_members : FnScope N_Committee_members ["self"] (defScope s_Committee_members) := ⟨rfl, rfl, rfl, by decide +kernel, rfl, by decide +kernel, by decide +kernel⟩
abbrev s_Ranking___and__ : Stmt := inClass (top 25) 8
abbrev N_Ranking___and__ : List Str := ["self", "committee", "name"]
theorem sc_Ranking___and__ : FnScope N_Ranking___and__ ["self", "committee"] (defScope s_Ranking___and__) := ⟨rfl, rfl, rfl, by decide +kernel, rfl, by decide +kernel, by decide +kernel⟩
abbrev s_is_number : Stmt := top 16
abbrev N_is_number : List Str := ["candidate", "least", "greatest"]
theorem sc_is_number : FnScope N_is_number ["candidate", "least", "greatest"] (defScope s_is_number) := ⟨rfl, rfl, rfl, by decide +kernel, rfl, by decide +kernel, by decide +kernel⟩
abbrev s_Ranking___getitem__ : Stmt := inClass (top 25) 6
abbrev N_Ranking___getitem__ : List Str := ["self", "place"]
theorem sc_Ranking___getitem__ : FnScope N_Ranking___getitem__ ["self", "place"] (defScope s_Ranking___getitem__) := ⟨rfl, rfl, rfl, by decide +kernel, rfl, by decide +kernel, by decide +kernel⟩
abbrev s_Ranking_worst : Stmt := inClass (top 25) 12
abbrev N_Ranking_worst : List Str := ["self", "committee", "found"]
theorem sc_Ranking_worst : FnScope N_Ranking_worst ["self", "committee"] (defScope s_Ranking_worst) := ⟨rfl, rfl, rfl, by decide +kernel, rfl, by decide +kernel, by decide +kernel⟩
abbrev s_Game_ranking_of : Stmt := inClass (top 32) 10
abbrev N_Game_ranking_of : List Str := ["self", "player"]
theorem sc_Game_ranking_of : FnScope N_Game_ranking_of ["self", "player"] (defScope s_Game_ranking_of) := ⟨rfl, rfl, rfl, by decide +kernel, rfl, by decide +kernel, by decide +kernel⟩
abbrev s_backward_pass : Stmt := top 21
abbrev N_backward_pass : List Str := ["game", "steps", "left", "player", "name"]
theorem sc_backward_pass : FnScope N_backward_pass ["game"] (defScope s_backward_pass) := ⟨rfl, rfl, rfl, by decide +kernel, rfl, by decide +kernel, by decide +kernel⟩
abbrev s_outcome : Stmt := top 22
abbrev N_outcome : List Str := ["game", "player", "name"]
theorem sc_outcome : FnScope N_outcome ["game"] (defScope s_outcome) := ⟨rfl, rfl, rfl, by decide +kernel, rfl, by decide +kernel, by decide +kernel⟩
abbrev s_account : Stmt := top 23
abbrev N_account : List Str := ["game", "found", "player", "name"]
theorem sc_account : FnScope N_account ["game"] (defScope s_account) := ⟨rfl, rfl, rfl, by decide +kernel, rfl, by decide +kernel, by decide +kernel⟩
abbrev s__law_raised : Stmt := top 41
abbrev N__law_raised : List Str := ["_law_stream_here", "_law_order", "_law_name", "_law_place", "_law_rest", "_law_other"]
theorem sc__law_raised : FnScope N__law_raised ["_law_stream_here", "_law_order", "_law_name"] (defScope s__law_raised) := ⟨rfl, rfl, rfl, by decide +kernel, rfl, by decide +kernel, by decide +kernel⟩
abbrev s_law : Stmt := top 42
abbrev N_law : List Str := ["_law_script", "_law_k", "_law_stream_here", "_law_turn", "_law_drawn_here", "_law_game", "_law_goal", "_law_struck", "_law_name", "_law_all_raised", "_law_player", "_law_rankings", "_law_other"]
theorem sc_law : FnScope N_law ["_law_script"] (defScope s_law) := ⟨rfl, rfl, rfl, by decide +kernel, rfl, by decide +kernel, by decide +kernel⟩
structure Ads where
  c_Committee : Addr
  c_Game : Addr
  c_Ranking : Addr
  c_Turns : Addr
  c_InvalidCommittee : Addr
  c_InvalidGame : Addr
  c_InvalidRanking : Addr
  c_InvalidTurns : Addr
  c_NoPlace : Addr
  c_UnknownName : Addr
  i_NoPlace : Addr
  i_UnknownName : Addr
  a__law_stream : Addr
  a__law_draw : Addr
  a__law_names : Addr
  a__law_shuffled : Addr
  a__law_choose : Addr
  a__law_drawn : Addr
  a_is_name : Addr
  a_Committee___eq__ : Addr
  a_distinct : Addr
  a_are_names : Addr
  a_Committee___init__ : Addr
  a_Ranking_alternatives : Addr
  a_as_committee : Addr
  a_check_rankings : Addr
  a_Turns___len__ : Addr
  a_Game_first_ranking : Addr
  a_Ranking___len__ : Addr
  a_Turns_players : Addr
  a_Game_check_turns : Addr
  a_Game___init__ : Addr
  a_Turns___init__ : Addr
  a_Ranking___init__ : Addr
  a__law_made : Addr
  a_Committee___sub__ : Addr
  a_Game_alternatives : Addr
  a_Game_turns : Addr
  a_Committee_members : Addr
  a_Ranking___and__ : Addr
  a_is_number : Addr
  a_Ranking___getitem__ : Addr
  a_Ranking_worst : Addr
  a_Game_ranking_of : Addr
  a_backward_pass : Addr
  a_outcome : Addr
  a_account : Addr
  a__law_raised : Addr
  a_law : Addr
  d__law_stream : FuncData
  d__law_draw : FuncData
  d__law_names : FuncData
  d__law_shuffled : FuncData
  d__law_choose : FuncData
  d__law_drawn : FuncData
  d_is_name : FuncData
  d_Committee___eq__ : FuncData
  d_distinct : FuncData
  d_are_names : FuncData
  d_Committee___init__ : FuncData
  d_Ranking_alternatives : FuncData
  d_as_committee : FuncData
  d_check_rankings : FuncData
  d_Turns___len__ : FuncData
  d_Game_first_ranking : FuncData
  d_Ranking___len__ : FuncData
  d_Turns_players : FuncData
  d_Game_check_turns : FuncData
  d_Game___init__ : FuncData
  d_Turns___init__ : FuncData
  d_Ranking___init__ : FuncData
  d__law_made : FuncData
  d_Committee___sub__ : FuncData
  d_Game_alternatives : FuncData
  d_Game_turns : FuncData
  d_Committee_members : FuncData
  d_Ranking___and__ : FuncData
  d_is_number : FuncData
  d_Ranking___getitem__ : FuncData
  d_Ranking_worst : FuncData
  d_Game_ranking_of : FuncData
  d_backward_pass : FuncData
  d_outcome : FuncData
  d_account : FuncData
  d__law_raised : FuncData
  d_law : FuncData
  u_LETTERS : Value
  u_MAX_LETTERS : Value
  u_MAX_NAMES : Value
  b_Committee_members : Addr
  b_Game_alternatives : Addr
  b_Game_turns : Addr
  b_Ranking_alternatives : Addr
  b_Turns_players : Addr
structure Txt (K : PySem.W.Frag) (mg : Str → Option Value) (A : Ads) : Prop where
  b_all : mg "all" = none
  b_bool : mg "bool" = none
  b_dict : mg "dict" = none
  b_enumerate : mg "enumerate" = none
  b_int : mg "int" = none
  b_isinstance : mg "isinstance" = none
  b_len : mg "len" = none
  b_list : mg "list" = none
  b_max : mg "max" = none
  b_min : mg "min" = none
  b_range : mg "range" = none
  b_sorted : mg "sorted" = none
  b_str : mg "str" = none
  b_super : mg "super" = none
  v_LETTERS : mg "LETTERS" = some A.u_LETTERS
  r_LETTERS : RelV K_LETTERS A.u_LETTERS
  v_MAX_LETTERS : mg "MAX_LETTERS" = some A.u_MAX_LETTERS
  r_MAX_LETTERS : RelV K_MAX_LETTERS A.u_MAX_LETTERS
  v_MAX_NAMES : mg "MAX_NAMES" = some A.u_MAX_NAMES
  r_MAX_NAMES : RelV K_MAX_NAMES A.u_MAX_NAMES
  gn_Committee : PySem.W.nsIn K mainGlobals "Committee" = some (some (.ref A.c_Committee))
  g_Committee : mg "Committee" = some (.ref A.c_Committee)
  cl_Committee : clOf K "Committee" = A.c_Committee
  gn_Game : PySem.W.nsIn K mainGlobals "Game" = some (some (.ref A.c_Game))
  g_Game : mg "Game" = some (.ref A.c_Game)
  cl_Game : clOf K "Game" = A.c_Game
  gn_Ranking : PySem.W.nsIn K mainGlobals "Ranking" = some (some (.ref A.c_Ranking))
  g_Ranking : mg "Ranking" = some (.ref A.c_Ranking)
  cl_Ranking : clOf K "Ranking" = A.c_Ranking
  gn_Turns : PySem.W.nsIn K mainGlobals "Turns" = some (some (.ref A.c_Turns))
  g_Turns : mg "Turns" = some (.ref A.c_Turns)
  cl_Turns : clOf K "Turns" = A.c_Turns
  gn_InvalidCommittee : PySem.W.nsIn K mainGlobals "InvalidCommittee" = some (some (.ref A.c_InvalidCommittee))
  g_InvalidCommittee : mg "InvalidCommittee" = some (.ref A.c_InvalidCommittee)
  cl_InvalidCommittee : clOf K "InvalidCommittee" = A.c_InvalidCommittee
  gn_InvalidGame : PySem.W.nsIn K mainGlobals "InvalidGame" = some (some (.ref A.c_InvalidGame))
  g_InvalidGame : mg "InvalidGame" = some (.ref A.c_InvalidGame)
  cl_InvalidGame : clOf K "InvalidGame" = A.c_InvalidGame
  gn_InvalidRanking : PySem.W.nsIn K mainGlobals "InvalidRanking" = some (some (.ref A.c_InvalidRanking))
  g_InvalidRanking : mg "InvalidRanking" = some (.ref A.c_InvalidRanking)
  cl_InvalidRanking : clOf K "InvalidRanking" = A.c_InvalidRanking
  gn_InvalidTurns : PySem.W.nsIn K mainGlobals "InvalidTurns" = some (some (.ref A.c_InvalidTurns))
  g_InvalidTurns : mg "InvalidTurns" = some (.ref A.c_InvalidTurns)
  cl_InvalidTurns : clOf K "InvalidTurns" = A.c_InvalidTurns
  gn_NoPlace : PySem.W.nsIn K mainGlobals "NoPlace" = some (some (.ref A.c_NoPlace))
  g_NoPlace : mg "NoPlace" = some (.ref A.c_NoPlace)
  cl_NoPlace : clOf K "NoPlace" = A.c_NoPlace
  gn_UnknownName : PySem.W.nsIn K mainGlobals "UnknownName" = some (some (.ref A.c_UnknownName))
  g_UnknownName : mg "UnknownName" = some (.ref A.c_UnknownName)
  cl_UnknownName : clOf K "UnknownName" = A.c_UnknownName
  z0 : Cl0 K
  o_Committee : OwnC K A.c_Committee
  o_Game : OwnC K A.c_Game
  o_Ranking : OwnC K A.c_Ranking
  o_Turns : OwnC K A.c_Turns
  n_Committee_own_members : NoAttr K A.c_Committee "own_members"
  n_Game_own_rankings : NoAttr K A.c_Game "own_rankings"
  n_Game_own_turns : NoAttr K A.c_Game "own_turns"
  n_Ranking_order : NoAttr K A.c_Ranking "order"
  n_Ranking_places : NoAttr K A.c_Ranking "places"
  n_Turns_order : NoAttr K A.c_Turns "order"
  tab : Tab K
  gl__law_stream : mg "_law_stream" = some (.ref A.a__law_stream)
  F__law_stream : Fun K "_law_stream" "_law_stream" s__law_stream A.a__law_stream A.d__law_stream
  gl__law_draw : mg "_law_draw" = some (.ref A.a__law_draw)
  F__law_draw : Fun K "_law_draw" "_law_draw" s__law_draw A.a__law_draw A.d__law_draw
  gl__law_names : mg "_law_names" = some (.ref A.a__law_names)
  F__law_names : Fun K "_law_names" "_law_names" s__law_names A.a__law_names A.d__law_names
  gl__law_shuffled : mg "_law_shuffled" = some (.ref A.a__law_shuffled)
  F__law_shuffled : Fun K "_law_shuffled" "_law_shuffled" s__law_shuffled A.a__law_shuffled A.d__law_shuffled
  gl__law_choose : mg "_law_choose" = some (.ref A.a__law_choose)
  F__law_choose : Fun K "_law_choose" "_law_choose" s__law_choose A.a__law_choose A.d__law_choose
  gl__law_drawn : mg "_law_drawn" = some (.ref A.a__law_drawn)
  F__law_drawn : Fun K "_law_drawn" "_law_drawn" s__law_drawn A.a__law_drawn A.d__law_drawn
  gl_is_name : mg "is_name" = some (.ref A.a_is_name)
  F_is_name : Fun K "is_name" "is_name" s_is_name A.a_is_name A.d_is_name
  p_Committee___eq__ : Spc K A.c_Committee "__eq__" A.a_Committee___eq__
  F_Committee___eq__ : Fun K "__eq__" "Committee.__eq__" s_Committee___eq__ A.a_Committee___eq__ A.d_Committee___eq__
  h_Committee___eq__ : Meth K A.c_Committee "__eq__" A.a_Committee___eq__
  gl_distinct : mg "distinct" = some (.ref A.a_distinct)
  F_distinct : Fun K "distinct" "distinct" s_distinct A.a_distinct A.d_distinct
  gl_are_names : mg "are_names" = some (.ref A.a_are_names)
  F_are_names : Fun K "are_names" "are_names" s_are_names A.a_are_names A.d_are_names
  p_Committee___init__ : Spc K A.c_Committee "__init__" A.a_Committee___init__
  m_Committee : Mk K A.c_Committee A.a_Committee___init__
  F_Committee___init__ : Fun K "__init__" "Committee.__init__" s_Committee___init__ A.a_Committee___init__ A.d_Committee___init__
  h_Committee___init__ : Meth K A.c_Committee "__init__" A.a_Committee___init__
  q_Ranking_alternatives : PropOf K A.c_Ranking "alternatives" A.b_Ranking_alternatives A.a_Ranking_alternatives
  F_Ranking_alternatives : Fun K "alternatives" "Ranking.alternatives" s_Ranking_alternatives A.a_Ranking_alternatives A.d_Ranking_alternatives
  gl_as_committee : mg "as_committee" = some (.ref A.a_as_committee)
  F_as_committee : Fun K "as_committee" "as_committee" s_as_committee A.a_as_committee A.d_as_committee
  gl_check_rankings : mg "check_rankings" = some (.ref A.a_check_rankings)
  F_check_rankings : Fun K "check_rankings" "check_rankings" s_check_rankings A.a_check_rankings A.d_check_rankings
  p_Turns___len__ : Spc K A.c_Turns "__len__" A.a_Turns___len__
  F_Turns___len__ : Fun K "__len__" "Turns.__len__" s_Turns___len__ A.a_Turns___len__ A.d_Turns___len__
  h_Turns___len__ : Meth K A.c_Turns "__len__" A.a_Turns___len__
  p_Game_first_ranking : Spc K A.c_Game "first_ranking" A.a_Game_first_ranking
  F_Game_first_ranking : Fun K "first_ranking" "Game.first_ranking" s_Game_first_ranking A.a_Game_first_ranking A.d_Game_first_ranking
  h_Game_first_ranking : Meth K A.c_Game "first_ranking" A.a_Game_first_ranking
  p_Ranking___len__ : Spc K A.c_Ranking "__len__" A.a_Ranking___len__
  F_Ranking___len__ : Fun K "__len__" "Ranking.__len__" s_Ranking___len__ A.a_Ranking___len__ A.d_Ranking___len__
  h_Ranking___len__ : Meth K A.c_Ranking "__len__" A.a_Ranking___len__
  q_Turns_players : PropOf K A.c_Turns "players" A.b_Turns_players A.a_Turns_players
  F_Turns_players : Fun K "players" "Turns.players" s_Turns_players A.a_Turns_players A.d_Turns_players
  p_Game_check_turns : Spc K A.c_Game "check_turns" A.a_Game_check_turns
  F_Game_check_turns : Fun K "check_turns" "Game.check_turns" s_Game_check_turns A.a_Game_check_turns A.d_Game_check_turns
  h_Game_check_turns : Meth K A.c_Game "check_turns" A.a_Game_check_turns
  p_Game___init__ : Spc K A.c_Game "__init__" A.a_Game___init__
  m_Game : Mk K A.c_Game A.a_Game___init__
  F_Game___init__ : Fun K "__init__" "Game.__init__" s_Game___init__ A.a_Game___init__ A.d_Game___init__
  h_Game___init__ : Meth K A.c_Game "__init__" A.a_Game___init__
  p_Turns___init__ : Spc K A.c_Turns "__init__" A.a_Turns___init__
  m_Turns : Mk K A.c_Turns A.a_Turns___init__
  F_Turns___init__ : Fun K "__init__" "Turns.__init__" s_Turns___init__ A.a_Turns___init__ A.d_Turns___init__
  h_Turns___init__ : Meth K A.c_Turns "__init__" A.a_Turns___init__
  p_Ranking___init__ : Spc K A.c_Ranking "__init__" A.a_Ranking___init__
  m_Ranking : Mk K A.c_Ranking A.a_Ranking___init__
  F_Ranking___init__ : Fun K "__init__" "Ranking.__init__" s_Ranking___init__ A.a_Ranking___init__ A.d_Ranking___init__
  h_Ranking___init__ : Meth K A.c_Ranking "__init__" A.a_Ranking___init__
  gl__law_made : mg "_law_made" = some (.ref A.a__law_made)
  F__law_made : Fun K "_law_made" "_law_made" s__law_made A.a__law_made A.d__law_made
  p_Committee___sub__ : Spc K A.c_Committee "__sub__" A.a_Committee___sub__
  F_Committee___sub__ : Fun K "__sub__" "Committee.__sub__" s_Committee___sub__ A.a_Committee___sub__ A.d_Committee___sub__
  h_Committee___sub__ : Meth K A.c_Committee "__sub__" A.a_Committee___sub__
  q_Game_alternatives : PropOf K A.c_Game "alternatives" A.b_Game_alternatives A.a_Game_alternatives
  F_Game_alternatives : Fun K "alternatives" "Game.alternatives" s_Game_alternatives A.a_Game_alternatives A.d_Game_alternatives
  q_Game_turns : PropOf K A.c_Game "turns" A.b_Game_turns A.a_Game_turns
  F_Game_turns : Fun K "turns" "Game.turns" s_Game_turns A.a_Game_turns A.d_Game_turns
  q_Committee_members : PropOf K A.c_Committee "members" A.b_Committee_members A.a_Committee_members
  F_Committee_members : Fun K "members" "Committee.members" s_Committee_members A.a_Committee_members A.d_Committee_members
  p_Ranking___and__ : Spc K A.c_Ranking "__and__" A.a_Ranking___and__
  F_Ranking___and__ : Fun K "__and__" "Ranking.__and__" s_Ranking___and__ A.a_Ranking___and__ A.d_Ranking___and__
  h_Ranking___and__ : Meth K A.c_Ranking "__and__" A.a_Ranking___and__
  gl_is_number : mg "is_number" = some (.ref A.a_is_number)
  F_is_number : Fun K "is_number" "is_number" s_is_number A.a_is_number A.d_is_number
  p_Ranking___getitem__ : Spc K A.c_Ranking "__getitem__" A.a_Ranking___getitem__
  fi_Ranking___getitem__ : PySem.W.fnIn K A.a_Ranking___getitem__ = true
  F_Ranking___getitem__ : Fun K "__getitem__" "Ranking.__getitem__" s_Ranking___getitem__ A.a_Ranking___getitem__ A.d_Ranking___getitem__
  h_Ranking___getitem__ : Meth K A.c_Ranking "__getitem__" A.a_Ranking___getitem__
  p_Ranking_worst : Spc K A.c_Ranking "worst" A.a_Ranking_worst
  F_Ranking_worst : Fun K "worst" "Ranking.worst" s_Ranking_worst A.a_Ranking_worst A.d_Ranking_worst
  h_Ranking_worst : Meth K A.c_Ranking "worst" A.a_Ranking_worst
  p_Game_ranking_of : Spc K A.c_Game "ranking_of" A.a_Game_ranking_of
  F_Game_ranking_of : Fun K "ranking_of" "Game.ranking_of" s_Game_ranking_of A.a_Game_ranking_of A.d_Game_ranking_of
  h_Game_ranking_of : Meth K A.c_Game "ranking_of" A.a_Game_ranking_of
  gl_backward_pass : mg "backward_pass" = some (.ref A.a_backward_pass)
  F_backward_pass : Fun K "backward_pass" "backward_pass" s_backward_pass A.a_backward_pass A.d_backward_pass
  gl_outcome : mg "outcome" = some (.ref A.a_outcome)
  F_outcome : Fun K "outcome" "outcome" s_outcome A.a_outcome A.d_outcome
  gl_account : mg "account" = some (.ref A.a_account)
  F_account : Fun K "account" "account" s_account A.a_account A.d_account
  gl__law_raised : mg "_law_raised" = some (.ref A.a__law_raised)
  F__law_raised : Fun K "_law_raised" "_law_raised" s__law_raised A.a__law_raised A.d__law_raised
  gl_law : mg "law" = some (.ref A.a_law)
  F_law : Fun K "law" "law" s_law A.a_law A.d_law
  ne_Committee : PySem.W.findIn K (.ref A.c_Committee) "__ne__" = some (some (.builtin "object.__ne__"))
  bin_Ranking_Committee_BitAnd : ∀ c ∈ (["Committee"] : List Str), ∀ a dx fs H, H a = some (.ins (clOf K c) dx fs) → OtherC K H A.c_Ranking .BitAnd (.ref a)
  x_InvalidCommittee : PySem.W.excIn K A.c_InvalidCommittee [.type "ValueError", .type "Exception", .type "BaseException", .type "object"] "ValueError.__new__" = true
  k_InvalidCommittee : PySem.W.keepIn K (.ref A.c_InvalidCommittee) = true
  s_InvalidCommittee : PySem.W.subIn K (.ref A.c_InvalidCommittee) (.type "BaseException") = some true
  t_InvalidCommittee : PySem.W.typeIn K (.ref A.c_InvalidCommittee) = some (.type "type")
  x_InvalidGame : PySem.W.excIn K A.c_InvalidGame [.type "ValueError", .type "Exception", .type "BaseException", .type "object"] "ValueError.__new__" = true
  k_InvalidGame : PySem.W.keepIn K (.ref A.c_InvalidGame) = true
  s_InvalidGame : PySem.W.subIn K (.ref A.c_InvalidGame) (.type "BaseException") = some true
  t_InvalidGame : PySem.W.typeIn K (.ref A.c_InvalidGame) = some (.type "type")
  x_InvalidRanking : PySem.W.excIn K A.c_InvalidRanking [.type "ValueError", .type "Exception", .type "BaseException", .type "object"] "ValueError.__new__" = true
  k_InvalidRanking : PySem.W.keepIn K (.ref A.c_InvalidRanking) = true
  s_InvalidRanking : PySem.W.subIn K (.ref A.c_InvalidRanking) (.type "BaseException") = some true
  t_InvalidRanking : PySem.W.typeIn K (.ref A.c_InvalidRanking) = some (.type "type")
  x_InvalidTurns : PySem.W.excIn K A.c_InvalidTurns [.type "ValueError", .type "Exception", .type "BaseException", .type "object"] "ValueError.__new__" = true
  k_InvalidTurns : PySem.W.keepIn K (.ref A.c_InvalidTurns) = true
  s_InvalidTurns : PySem.W.subIn K (.ref A.c_InvalidTurns) (.type "BaseException") = some true
  t_InvalidTurns : PySem.W.typeIn K (.ref A.c_InvalidTurns) = some (.type "type")
  k_NoPlace : PySem.W.keepIn K (.ref A.c_NoPlace) = true
  s_NoPlace : PySem.W.subIn K (.ref A.c_NoPlace) (.type "BaseException") = some true
  t_NoPlace : PySem.W.typeIn K (.ref A.c_NoPlace) = some (.type "type")
  sp_NoPlace : SupX.SupC PG K "number" A.c_NoPlace A.i_NoPlace "LookupError" "LookupError.__new__" "LookupError.__init__" [.type "LookupError", .type "Exception", .type "BaseException", .type "object"]
  k_UnknownName : PySem.W.keepIn K (.ref A.c_UnknownName) = true
  s_UnknownName : PySem.W.subIn K (.ref A.c_UnknownName) (.type "BaseException") = some true
  t_UnknownName : PySem.W.typeIn K (.ref A.c_UnknownName) = some (.type "type")
  sp_UnknownName : SupX.SupC PG K "name" A.c_UnknownName A.i_UnknownName "LookupError" "LookupError.__new__" "LookupError.__init__" [.type "LookupError", .type "Exception", .type "BaseException", .type "object"]
variable {w : World} {K : PySem.W.Frag} {mg : Str → Option Value} {base : Heap} {A : Ads}
theorem ok__law_stream (T : Txt K mg A) : FnOk PG w K mg base (L2.CX PG w) 1 A.a__law_stream A.d__law_stream ["_law_script", "_law_k"] (spF K (MirF m__law_stream)) := by
  refine def_okM T.F__law_stream sc__law_stream (fun cdv A' outer s H E hr => ?_)
  refine ⟨_, ?p, fun k0 => (rm_seq (rm_asg em_con) (rm_seq (rm_if (tm_test (em_op ok_iP em_var (em_cb ok_len (am_cons em_var am_nil)))) (rm_asg (em_op ok_ixL em_var em_var)) rm_nil) (rm_seq (rm_asg (em_cb ok_max2 (am_cons em_var (am_cons (em_op ok_iP (em_un ok_neg em_con) em_var) am_nil)))) (rm_seq (rm_asg (em_op ok_mod (em_op ok_mul (em_op ok_iP (em_op ok_iP (em_op ok_iP (em_op ok_mod em_var em_con) (em_op ok_mul (em_op ok_mul em_con em_var) em_var)) (em_op ok_mul em_con em_var)) em_con) em_con) em_con)) (rm_ret (em_lst (pm_cons (em_op ok_mul em_var (em_cb ok_int (am_cons (em_op ok_iP em_var (em_op ok_pow em_con em_con)) am_nil))) (pm_cons em_var pm_nil))))))))⟩
  exact (pss_cons (ps_set (i := 2) sc__law_stream.nd rfl (Or.inl rfl) pe_int) (pss_cons (ps_if (pt_cmpR op_lt (pv 1) (pe_callB call_lenA (by rfl) T.b_len (by decide +kernel) (pa_cons (pv 0) pa_nil)) (nomark _)) (pss_one (ps_set (i := 2) sc__law_stream.nd rfl (Or.inl rfl) (pe_ix ix_list (pv 0) (pv 1) (fun _ _ => rfl)))) pss_nil) (pss_cons (ps_set (i := 3) sc__law_stream.nd rfl (Or.inl rfl) (pe_callB (call_max2' rfl) (by rfl) T.b_max (by decide +kernel) (pa_cons (pv 2) (pa_cons (pe_op op_sub (pe_un un_neg pe_int) (pv 2)) pa_nil)))) (pss_cons (ps_set (i := 4) sc__law_stream.nd rfl (Or.inl rfl) (pe_op op_mod (pe_op op_mul (pe_op op_add (pe_op op_add (pe_op op_add (pe_op op_mod (pv 3) pe_int) (pe_op op_mul (pe_op op_mul pe_int (pv 1)) (pv 1))) (pe_op op_mul pe_int (pv 1))) pe_int) pe_int) pe_int)) (pss_one (ps_ret (pe_lst (pa_cons (pe_op op_mul (pv 3) (pe_callTy call_int1' (by rfl) T.b_int (by decide +kernel) (pa_cons (pe_cmpR op_ge (pv 3) (pe_op op_pow pe_int pe_int) (nomark _)) pa_nil))) (pa_cons (pv 4) pa_nil)))))))))
theorem g__law_stream (T : Txt K mg A) : GDef PG w K mg base "_law_stream" A.a__law_stream A.d__law_stream 1 ["_law_script", "_law_k"] (MirF m__law_stream) := ⟨ok__law_stream T, T.gl__law_stream, T.F__law_stream.kp, (T.F__law_stream).binds fun _ _ _ _ _ _ us hl => match us, hl with | [_, _], _ => rfl⟩
theorem ok__law_draw (T : Txt K mg A) : FnOk PG w K mg base (L2.CX PG w) 1 A.a__law_draw A.d__law_draw ["_law_stream_here", "_law_count"] (spF K (MirF m__law_draw)) := by
  refine def_okM T.F__law_draw sc__law_draw (fun cdv A' outer s H E hr => ?_)
  refine ⟨_, ?p, fun k0 => (rm_seq (rm_if (tm_test (em_op ok_iP (em_op ok_ixL em_var em_con) em_con)) (rm_seq (rm_asg (em_op ok_mod (em_op ok_ixL em_var em_con) em_var)) (rm_seq (rm_setL (em_op ok_div (em_op ok_ixL em_var em_con) em_var) em_var em_con) (rm_ret em_var))) rm_nil) (rm_seq (rm_setL (em_op ok_mod (em_op ok_iP (em_op ok_mul (em_op ok_ixL em_var em_con) em_con) em_con) em_con) em_var em_con) (rm_ret (em_op ok_mod (em_op ok_div (em_op ok_mod (em_op ok_mul (em_op ok_ixL em_var em_con) (em_op ok_ixL em_var em_con)) em_con) em_con) em_var))))⟩
  exact (pss_cons (ps_if (pt_cmpR op_gt (pe_ix ix_list (pv 0) pe_int (fun _ _ => rfl)) pe_int (nomark _)) (pss_cons (ps_set (i := 2) sc__law_draw.nd rfl (Or.inl rfl) (pe_op op_mod (pe_ix ix_list (pv 0) pe_int (fun _ _ => rfl)) (pv 1))) (pss_cons (ps_asg (pe_op op_fdiv (pe_ix ix_list (pv 0) pe_int (fun _ _ => rfl)) (pv 1)) (pg_sub (pv 0) pe_int set_list)) (pss_one (ps_ret (pv 2))))) pss_nil) (pss_cons (ps_asg (pe_op op_mod (pe_op op_add (pe_op op_mul (pe_ix ix_list (pv 0) pe_int (fun _ _ => rfl)) pe_int) pe_int) pe_int) (pg_sub (pv 0) pe_int set_list)) (pss_one (ps_ret (pe_op op_mod (pe_op op_fdiv (pe_op op_mod (pe_op op_mul (pe_ix ix_list (pv 0) pe_int (fun _ _ => rfl)) (pe_ix ix_list (pv 0) pe_int (fun _ _ => rfl))) pe_int) pe_int) (pv 1))))))
theorem g__law_draw (T : Txt K mg A) : GDef PG w K mg base "_law_draw" A.a__law_draw A.d__law_draw 1 ["_law_stream_here", "_law_count"] (MirF m__law_draw) := ⟨ok__law_draw T, T.gl__law_draw, T.F__law_draw.kp, (T.F__law_draw).binds fun _ _ _ _ _ _ us hl => match us, hl with | [_, _], _ => rfl⟩
theorem ok__law_names (T : Txt K mg A) : FnOk PG w K mg base (L2.CX PG w) 2 A.a__law_names A.d__law_names ["_law_stream_here", "_law_count"] (spF K (MirF m__law_names)) := by
  have G__law_draw := g__law_draw (w := w) (base := base) T
  refine def_okM T.F__law_names sc__law_names (fun cdv A' outer s H E hr => ?_)
  refine ⟨_, ?p, fun k0 => (rm_seq (rm_asg em_con) (rm_seq (rm_asgT (em_tup (pm_cons (em_call (am_cons em_var (am_cons em_con am_nil))) (pm_cons (em_op ok_ixL (em_lst (pm_cons em_con (pm_cons em_con (pm_cons em_con (pm_cons em_con (pm_cons em_con (pm_cons em_con (pm_cons em_con (pm_cons em_con pm_nil))))))))) (em_call (am_cons em_var (am_cons em_con am_nil)))) pm_nil))) (gm_tup (ga_cons gm_name (ga_cons gm_name ga_nil)) rfl)) (rm_seq (rm_asg (em_call (am_cons em_var (am_cons em_con am_nil)))) (rm_ret (em_lc (W' := W0) (vs := [6]) (im_rng1 (pm_cons em_var pm_nil)) (gw_name (by decide)) tm_yes (em_op ok_addS (em_op ok_mulS (em_op ok_ixS em_var (em_op ok_mod (em_op ok_iP em_var (em_op ok_mul em_var em_var)) em_con)) (em_op ok_iP em_con (em_op ok_mul em_var (em_op ok_mod em_var em_con)))) (em_op ok_mulS em_con (em_op ok_div em_var em_con))))))))⟩
  exact (pss_cons (ps_set (i := 2) sc__law_names.nd rfl (Or.inr rfl) pe_str) (pss_cons (ps_asg (pe_tup (pa_cons (pe_callF G__law_draw.ok (hr.mono (by decide)) rfl G__law_draw.mgx G__law_draw.kp G__law_draw.bn tkD (pa_cons (pv 0) (pa_cons pe_int pa_nil))) (pa_cons (pe_ix ix_list (pe_lst (pa_cons pe_int (pa_cons pe_int (pa_cons pe_int (pa_cons pe_int (pa_cons pe_int (pa_cons pe_int (pa_cons pe_int (pa_cons pe_int pa_nil))))))))) (pe_callF G__law_draw.ok (hr.mono (by decide)) rfl G__law_draw.mgx G__law_draw.kp G__law_draw.bn tkD (pa_cons (pv 0) (pa_cons pe_int pa_nil))) (fun _ _ => rfl)) pa_nil))) (pg_tup rfl (pgs_cons (pg_name (i := 3) sc__law_names.nd rfl (Or.inr rfl)) (pgs_cons (pg_name (i := 4) sc__law_names.nd rfl (Or.inr rfl)) pgs_nil)))) (pss_cons (ps_set (i := 5) sc__law_names.nd rfl (Or.inr rfl) (pe_callF G__law_draw.ok (hr.mono (by decide)) rfl G__law_draw.mgx G__law_draw.kp G__law_draw.bn tkD (pa_cons (pv 0) (pa_cons pe_int pa_nil)))) (pss_one (ps_ret (pe_lc (own := [("_law_number", 6)]) (tt := tYes) rfl sc__law_names.nd (pi_range1 rfl T.b_range (pa_cons (pv 1) pa_nil)) (blkOk_by (N := N__law_names) (sc := defScope s__law_names) (by decide +kernel)) (fun _ _ _ _ _ => (pg_name (i := 6) sc__law_names.nd rfl (Or.inl rfl))) (fun _ _ _ _ _ => pts_nil) (fun _ _ _ _ _ => (pe_op op_addS (pe_op op_mulS (pe_ix ix_str (pv 2) (pe_op op_mod (pe_op op_add (pv 3) (pe_op op_mul (pv 4) (pv 6))) pe_int) (fun _ _ => rfl)) (pe_op op_add pe_int (pe_op op_mul (pv 5) (pe_op op_mod (pv 6) pe_int)))) (pe_op op_mulS pe_str (pe_op op_fdiv (pv 6) pe_int))))))))))
theorem g__law_names (T : Txt K mg A) : GDef PG w K mg base "_law_names" A.a__law_names A.d__law_names 2 ["_law_stream_here", "_law_count"] (MirF m__law_names) := ⟨ok__law_names T, T.gl__law_names, T.F__law_names.kp, (T.F__law_names).binds fun _ _ _ _ _ _ us hl => match us, hl with | [_, _], _ => rfl⟩
theorem ok__law_shuffled (T : Txt K mg A) : FnOk PG w K mg base (L2.CX PG w) 2 A.a__law_shuffled A.d__law_shuffled ["_law_stream_here", "_law_names_here"] (spF K (MirF m__law_shuffled)) := by
  have G__law_draw := g__law_draw (w := w) (base := base) T
  refine def_okM T.F__law_shuffled sc__law_shuffled (fun cdv A' outer s H E hr => ?_)
  refine ⟨_, ?p, fun k0 => (rm_seq (rm_par (em_cb ok_list (am_cons em_var am_nil)) (em_lst pm_nil)) (rm_seq (rm_for (im_rng1 (pm_cons (em_cb ok_len (am_cons em_var am_nil)) pm_nil)) gm_name (rm_drop (em_mutL mt_app em_var (pm_cons (em_mutL mt_popAtL em_var (pm_cons (em_call (am_cons em_var (am_cons (em_cb ok_len (am_cons em_var am_nil)) am_nil))) pm_nil)) pm_nil)))) (rm_ret em_var)))⟩
  exact (pss_cons (ps_par (i := 2) (j := 3) rfl sc__law_shuffled.nd rfl rfl (by decide) rfl rfl (pa_cons (pe_callTy call_listOf (by rfl) T.b_list (by decide +kernel) (pa_cons (pv 1) pa_nil)) (pa_cons (pe_lst pa_nil) pa_nil)) rfl) (pss_cons (ps_for (passes_of rfl) rfl (pi_range1 rfl T.b_range (pa_cons (pe_callB call_lenA (by rfl) T.b_len (by decide +kernel) (pa_cons (pv 1) pa_nil)) pa_nil)) (pg_name (i := 4) sc__law_shuffled.nd rfl (Or.inl rfl)) (pss_one (ps_expr (pe_bm PySem.F.plainAttrs_list PySem.F.slot_list_append PySem.F.type_list_append mt_append (pv 3) (pa_cons (pe_bm PySem.F.plainAttrs_list PySem.F.slot_list_pop PySem.F.type_list_pop mt_popAt (pv 2) (pa_cons (pe_callF G__law_draw.ok (hr.mono (by decide)) rfl G__law_draw.mgx G__law_draw.kp G__law_draw.bn tkD (pa_cons (pv 0) (pa_cons (pe_callB call_lenA (by rfl) T.b_len (by decide +kernel) (pa_cons (pv 2) pa_nil)) pa_nil))) pa_nil)) pa_nil))))) (pss_one (ps_ret (pv 3)))))
theorem g__law_shuffled (T : Txt K mg A) : GDef PG w K mg base "_law_shuffled" A.a__law_shuffled A.d__law_shuffled 2 ["_law_stream_here", "_law_names_here"] (MirF m__law_shuffled) := ⟨ok__law_shuffled T, T.gl__law_shuffled, T.F__law_shuffled.kp, (T.F__law_shuffled).binds fun _ _ _ _ _ _ us hl => match us, hl with | [_, _], _ => rfl⟩
theorem ok__law_choose (T : Txt K mg A) : FnOk PG w K mg base (L2.CX PG w) 2 A.a__law_choose A.d__law_choose ["_law_stream_here", "_law_items"] (spF K (MirF m__law_choose)) := by
  have G__law_draw := g__law_draw (w := w) (base := base) T
  refine def_okM T.F__law_choose sc__law_choose (fun cdv A' outer s H E hr => ?_)
  refine ⟨_, ?p, fun k0 => (rm_ret (em_op ok_ixL em_var (em_call (am_cons em_var (am_cons (em_cb ok_len (am_cons em_var am_nil)) am_nil)))))⟩
  exact (pss_one (ps_ret (pe_ix ix_list (pv 1) (pe_callF G__law_draw.ok (hr.mono (by decide)) rfl G__law_draw.mgx G__law_draw.kp G__law_draw.bn tkD (pa_cons (pv 0) (pa_cons (pe_callB call_lenA (by rfl) T.b_len (by decide +kernel) (pa_cons (pv 1) pa_nil)) pa_nil))) (fun _ _ => rfl))))
theorem g__law_choose (T : Txt K mg A) : GDef PG w K mg base "_law_choose" A.a__law_choose A.d__law_choose 2 ["_law_stream_here", "_law_items"] (MirF m__law_choose) := ⟨ok__law_choose T, T.gl__law_choose, T.F__law_choose.kp, (T.F__law_choose).binds fun _ _ _ _ _ _ us hl => match us, hl with | [_, _], _ => rfl⟩
theorem ok__law_drawn (T : Txt K mg A) : FnOk PG w K mg base (L2.CX PG w) 3 A.a__law_drawn A.d__law_drawn ["_law_stream_here", "_law_most", "_law_players"] (spF K (MirF m__law_drawn)) := by
  have G__law_choose := g__law_choose (w := w) (base := base) T
  have G__law_draw := g__law_draw (w := w) (base := base) T
  have G__law_names := g__law_names (w := w) (base := base) T
  have G__law_shuffled := g__law_shuffled (w := w) (base := base) T
  refine def_okM T.F__law_drawn sc__law_drawn (fun cdv A' outer s H E hr => ?_)
  refine ⟨_, ?p, fun k0 => (rm_seq (rm_asg (em_call (am_cons em_var (am_cons (em_op ok_iP em_con (em_call (am_cons em_var (am_cons em_var am_nil)))) am_nil)))) (rm_seq (rm_asg (em_sl (em_lst (pm_cons em_con (pm_cons em_con (pm_cons em_con (pm_cons em_con pm_nil))))) om_none (om_part (em_op ok_iP em_con (em_call (am_cons em_var (am_cons em_var am_nil))))))) (rm_seq (rm_asg (em_call (am_cons em_var (am_cons em_var am_nil)))) (rm_seq (rm_asgC em_dnew) (rm_seq (rm_for (im_list em_var) gm_name (rm_seq (rm_asg (em_call (am_cons em_var (am_cons em_con am_nil)))) (rm_setD (em_op ok_ixL (em_lst (pm_cons (em_call (am_cons em_var (am_cons em_var am_nil))) (pm_cons em_var (pm_cons (em_rev em_var) (pm_cons (em_call (am_cons em_var (am_cons em_var am_nil))) pm_nil))))) em_var) em_var em_var))) (rm_seq (rm_asg (em_lc (W' := W0) (vs := [10]) (im_rng1 (pm_cons (em_call (am_cons em_var (am_cons (em_op ok_iP (em_cb ok_len (am_cons em_var am_nil)) em_con) am_nil))) pm_nil)) (gw_name (by decide)) tm_yes (em_call (am_cons em_var (am_cons em_var am_nil))))) (rm_ret (em_lst (pm_cons em_var (pm_cons em_var pm_nil))))))))))⟩
  exact (pss_cons (ps_set (i := 3) sc__law_drawn.nd rfl (Or.inl rfl) (pe_callF G__law_names.ok (hr.mono (by decide)) rfl G__law_names.mgx G__law_names.kp G__law_names.bn tkD (pa_cons (pv 0) (pa_cons (pe_op op_add pe_int (pe_callF G__law_draw.ok (hr.mono (by decide)) rfl G__law_draw.mgx G__law_draw.kp G__law_draw.bn tkD (pa_cons (pv 0) (pa_cons (pv 1) pa_nil)))) pa_nil)))) (pss_cons (ps_set (i := 4) sc__law_drawn.nd rfl (Or.inr rfl) (pe_slice sl_list (pe_lst (pa_cons pe_str (pa_cons pe_str (pa_cons pe_str (pa_cons pe_str pa_nil))))) po_none (po_some (pe_op op_add pe_int (pe_callF G__law_draw.ok (hr.mono (by decide)) rfl G__law_draw.mgx G__law_draw.kp G__law_draw.bn tkD (pa_cons (pv 0) (pa_cons (pv 2) pa_nil))))))) (pss_cons (ps_set (i := 5) sc__law_drawn.nd rfl (Or.inl rfl) (pe_callF G__law_shuffled.ok (hr.mono (by decide)) rfl G__law_shuffled.mgx G__law_shuffled.kp G__law_shuffled.bn tkD (pa_cons (pv 0) (pa_cons (pv 3) pa_nil)))) (pss_cons (ps_set (i := 6) sc__law_drawn.nd rfl (Or.inl rfl) pe_dnewK) (pss_cons (ps_for (passes_of rfl) rfl (pi_list (pv 4)) (pg_name (i := 7) sc__law_drawn.nd rfl (Or.inl rfl)) (pss_cons (ps_set (i := 8) sc__law_drawn.nd rfl (Or.inl rfl) (pe_callF G__law_draw.ok (hr.mono (by decide)) rfl G__law_draw.mgx G__law_draw.kp G__law_draw.bn tkD (pa_cons (pv 0) (pa_cons pe_int pa_nil)))) (pss_one (ps_dput (hu_of hr) (pv 6) (pv 7) (pe_ix ix_list (pe_lst (pa_cons (pe_callF G__law_shuffled.ok (hr.mono (by decide)) rfl G__law_shuffled.mgx G__law_shuffled.kp G__law_shuffled.bn tkD (pa_cons (pv 0) (pa_cons (pv 3) pa_nil))) (pa_cons (pv 5) (pa_cons (pe_revL (pv 5)) (pa_cons (pe_callF G__law_shuffled.ok (hr.mono (by decide)) rfl G__law_shuffled.mgx G__law_shuffled.kp G__law_shuffled.bn tkD (pa_cons (pv 0) (pa_cons (pv 3) pa_nil))) pa_nil))))) (pv 8) (fun _ _ => rfl)) rfl)))) (pss_cons (ps_setLc (i := 9) (own := [("_law_turn", 10)]) (tt := tYes) rfl sc__law_drawn.nd rfl rfl (sw_true rfl rfl rfl (by decide +kernel)) (pi_range1 rfl T.b_range (pa_cons (pe_callF G__law_draw.ok (hr.mono (by decide)) rfl G__law_draw.mgx G__law_draw.kp G__law_draw.bn tkD (pa_cons (pv 0) (pa_cons (pe_op op_add (pe_callB call_lenA (by rfl) T.b_len (by decide +kernel) (pa_cons (pv 3) pa_nil)) pe_int) pa_nil))) pa_nil)) (blkOk_by (N := N__law_drawn) (sc := defScope s__law_drawn) (by decide +kernel)) (fun _ _ _ _ _ => (pg_name (i := 10) sc__law_drawn.nd rfl (Or.inl rfl))) (fun _ _ _ _ _ => pts_nil) (fun _ _ _ _ _ => (pe_callF G__law_choose.ok (hr.mono (by decide)) rfl G__law_choose.mgx G__law_choose.kp G__law_choose.bn takes0 (pa_cons (pv 0) (pa_cons (pv 4) pa_nil))))) (pss_one (ps_ret (pe_lst (pa_cons (pv 6) (pa_cons (pv 9) pa_nil)))))))))))
theorem g__law_drawn (T : Txt K mg A) : GDef PG w K mg base "_law_drawn" A.a__law_drawn A.d__law_drawn 3 ["_law_stream_here", "_law_most", "_law_players"] (MirF m__law_drawn) := ⟨ok__law_drawn T, T.gl__law_drawn, T.F__law_drawn.kp, (T.F__law_drawn).binds fun _ _ _ _ _ _ us hl => match us, hl with | [_, _, _], _ => rfl⟩
theorem ok_is_name (T : Txt K mg A) : FnOk PG w K mg base (L2.CX PG w) 1 A.a_is_name A.d_is_name ["candidate"] (spF K (MirF m_is_name)) := by
  refine def_okM T.F_is_name sc_is_name (fun cdv A' outer s H E hr => ?_)
  refine ⟨_, ?p, fun k0 => (rm_seq (rm_if (tm_or (tm_not (tm_b (em_cb (ok_isi T.tab) (am_cons em_var (am_cons em_con am_nil))))) (tm_not (tm_test (em_chI (f := fun i j => decide (i ≤ j)) (g := fun i j => decide (i ≤ j)) em_con (em_cb ok_len (am_cons em_var am_nil)) em_con)))) (rm_ret em_con) rm_nil) (rm_ret (em_cb ok_all (am_cons (em_lc (W' := W0) (vs := [1]) (im_str em_var) (gw_name (by decide)) tm_yes (em_op ok_inS em_var em_con)) am_nil))))⟩
  exact (pss_cons (ps_if (PW.pt (pw_or (pt_not (pt_val (pe_callB call_isi (by rfl) T.b_isinstance (by decide +kernel) (pa_cons (pv 0) (pa_cons (pe_bltn (v := .ty "str") rfl T.b_str (by decide +kernel) rfl) pa_nil))))) (pw_or1 (pt_not (pt_chain op_le op_le pe_int (pe_callB call_lenA (by rfl) T.b_len (by decide +kernel) (pa_cons (pv 0) pa_nil)) (pe_glob (v := K_MAX_LETTERS) rfl T.v_MAX_LETTERS T.r_MAX_LETTERS)))))) (pss_one (ps_ret pe_bl)) pss_nil) (pss_one (ps_ret (pe_callB (cr_all rfl) (by rfl) T.b_all (by decide +kernel) (pa_cons (pe_lc (own := [("letter", 1)]) (tt := tYes) rfl sc_is_name.nd (pi_str (pv 0)) (blkOk_by (N := N_is_name) (sc := defScope s_is_name) (by decide +kernel)) (fun _ _ _ _ _ => (pg_name (i := 1) sc_is_name.nd rfl (Or.inl rfl))) (fun _ _ _ _ _ => pts_nil) (fun _ _ _ _ _ => (pe_cmpR op_in_sign (pv 1) (pe_glob (v := K_LETTERS) rfl T.v_LETTERS T.r_LETTERS) rfl))) pa_nil)))))
theorem g_is_name (T : Txt K mg A) : GDef PG w K mg base "is_name" A.a_is_name A.d_is_name 1 ["candidate"] (MirF m_is_name) := ⟨ok_is_name T, T.gl_is_name, T.F_is_name.kp, (T.F_is_name).binds fun _ _ _ _ _ _ us hl => match us, hl with | [_], _ => rfl⟩
theorem ok_Committee___eq__ (T : Txt K mg A) : FnOk PG w K mg base (L2.CX PG w) 1 A.a_Committee___eq__ A.d_Committee___eq__ ["self", "other"] (spF K (MirF m_Committee___eq__)) := by
  refine def_okM T.F_Committee___eq__ sc_Committee___eq__ (fun cdv A' outer s H E hr => ?_)
  refine ⟨_, ?p, fun k0 => (rm_ret (em_and (em_cb (ok_isi T.tab) (am_cons em_var (am_cons (em_glb T.gn_Committee) am_nil))) (em_op ok_eq (em_fld T.cl_Committee T.o_Committee.cl T.n_Committee_own_members em_var) (em_fld T.cl_Committee T.o_Committee.cl T.n_Committee_own_members em_var))))⟩
  exact (pss_one (ps_ret (pe_and (pe_callB call_isi (by rfl) T.b_isinstance (by decide +kernel) (pa_cons (pv 1) (pa_cons (pe_glob (v := .ref A.c_Committee) rfl T.g_Committee rfl) pa_nil))) (pe_one (pe_cmpR (op_eqD (Mr.hu64 hr)) (pe_fld (pv 0) rfl) (pe_fld (pv 1) rfl) (nomark _))))))
theorem g_Committee___eq__ (T : Txt K mg A) : GMet PG w K mg base A.a_Committee___eq__ A.d_Committee___eq__ 1 ["self", "other"] (MirF m_Committee___eq__) := ⟨ok_Committee___eq__ T, (T.F_Committee___eq__).binds fun _ _ _ _ _ _ us hl => match us, hl with | [_, _], _ => rfl⟩
theorem ok_distinct (T : Txt K mg A) : FnOk PG w K mg base (L2.CX PG w) 1 A.a_distinct A.d_distinct ["names"] (spF K (MirF m_distinct)) := by
  refine def_okM T.F_distinct sc_distinct (fun cdv A' outer s H E hr => ?_)
  refine ⟨_, ?p, fun k0 => (rm_ret (em_cb ok_sortD (am_cons (em_dc (W' := W0) (vs := [1]) (im_list em_var) (gw_name (by decide)) tm_yes em_var em_con) am_nil)))⟩
  exact (pss_one (ps_ret (pe_callB (call_sortedD' rfl) (by rfl) T.b_sorted (by decide +kernel) (pa_cons (pe_dc (own := [("name", 1)]) (tt := tYes) rfl sc_distinct.nd (pi_list (pv 0)) (blkOk_by (N := N_distinct) (sc := defScope s_distinct) (by decide +kernel)) (fun _ _ _ _ _ => (pg_name (i := 1) sc_distinct.nd rfl (Or.inl rfl))) (fun _ _ _ _ _ => pts_nil) (fun _ _ _ _ _ => (pv 1)) (fun _ _ _ _ _ => pe_bl)) pa_nil))))
theorem g_distinct (T : Txt K mg A) : GDef PG w K mg base "distinct" A.a_distinct A.d_distinct 1 ["names"] (MirF m_distinct) := ⟨ok_distinct T, T.gl_distinct, T.F_distinct.kp, (T.F_distinct).binds fun _ _ _ _ _ _ us hl => match us, hl with | [_], _ => rfl⟩
theorem ok_are_names (T : Txt K mg A) : FnOk PG w K mg base (L2.CX PG w) 2 A.a_are_names A.d_are_names ["candidate"] (spF K (MirF m_are_names)) := by
  have G_is_name := g_is_name (w := w) (base := base) T
  refine def_okM T.F_are_names sc_are_names (fun cdv A' outer s H E hr => ?_)
  refine ⟨_, ?p, fun k0 => (rm_ret (em_and (em_cb (ok_isi T.tab) (am_cons em_var (am_cons em_con am_nil))) (em_cb ok_all (am_cons (em_lc (W' := W0) (vs := [1]) (im_list em_var) (gw_name (by decide)) tm_yes (em_call (am_cons em_var am_nil))) am_nil))))⟩
  exact (pss_one (ps_ret (pe_and (pe_callB call_isi (by rfl) T.b_isinstance (by decide +kernel) (pa_cons (pv 0) (pa_cons (pe_bltn (v := .ty "list") rfl T.b_list (by decide +kernel) rfl) pa_nil))) (pe_one (pe_callB (cr_all rfl) (by rfl) T.b_all (by decide +kernel) (pa_cons (pe_lc (own := [("name", 1)]) (tt := tYes) rfl sc_are_names.nd (pi_list (pv 0)) (blkOk_by (N := N_are_names) (sc := defScope s_are_names) (by decide +kernel)) (fun _ _ _ _ _ => (pg_name (i := 1) sc_are_names.nd rfl (Or.inl rfl))) (fun _ _ _ _ _ => pts_nil) (fun _ _ _ _ _ => (pe_callF G_is_name.ok (hr.mono (by decide)) rfl G_is_name.mgx G_is_name.kp G_is_name.bn takes0 (pa_cons (pv 1) pa_nil)))) pa_nil))))))
theorem g_are_names (T : Txt K mg A) : GDef PG w K mg base "are_names" A.a_are_names A.d_are_names 2 ["candidate"] (MirF m_are_names) := ⟨ok_are_names T, T.gl_are_names, T.F_are_names.kp, (T.F_are_names).binds fun _ _ _ _ _ _ us hl => match us, hl with | [_], _ => rfl⟩
theorem ok_Committee___init__ (T : Txt K mg A) : FnOk PG w K mg base (L2.CX PG w) 3 A.a_Committee___init__ A.d_Committee___init__ ["self", "names"] (spF K (MirF m_Committee___init__)) := by
  have G_are_names := g_are_names (w := w) (base := base) T
  have G_distinct := g_distinct (w := w) (base := base) T
  refine def_okM T.F_Committee___init__ sc_Committee___init__ (fun cdv A' outer s H E hr => ?_)
  refine ⟨_, ?p, fun k0 => (rm_seq (rm_if (tm_or (tm_not (tm_b (em_call (am_cons em_var am_nil)))) (tm_test (em_op ok_iP (em_cb ok_len (am_cons (em_call (am_cons em_var am_nil)) am_nil)) em_con))) (rm_raise (t := fun _ H Q => Q (.ref A.c_InvalidCommittee) none H) fun σ H Q h => by rw [T.cl_InvalidCommittee] at h; exact h) rm_nil) (rm_fldS T.cl_Committee T.o_Committee.cl T.n_Committee_own_members (em_call (am_cons em_var am_nil)) em_var))⟩
  exact (pss_cons (ps_if (PW.pt (pw_or (pt_not (pt_val (pe_callF G_are_names.ok (hr.mono (by decide)) rfl G_are_names.mgx G_are_names.kp G_are_names.bn tkD (pa_cons (pv 1) pa_nil)))) (pw_or1 (pt_cmpR op_gt (pe_callB call_lenA (by rfl) T.b_len (by decide +kernel) (pa_cons (pe_callF G_distinct.ok (hr.mono (by decide)) rfl G_distinct.mgx G_distinct.kp G_distinct.bn tkD (pa_cons (pv 1) pa_nil)) pa_nil)) (pe_glob (v := K_MAX_NAMES) rfl T.v_MAX_NAMES T.r_MAX_NAMES) (nomark _))))) (pss_one (ps_raiseR (t := fun _ H Q => Q (.ref A.c_InvalidCommittee) none H) rfl tkD (pmk_own PySem.F.excBase_ValueError T.x_InvalidCommittee T.g_InvalidCommittee T.k_InvalidCommittee (raises_own T.s_InvalidCommittee T.t_InvalidCommittee) rfl))) pss_nil) (pss_one (ps_fld (pv 0) (pe_callF G_distinct.ok (hr.mono (by decide)) rfl G_distinct.mgx G_distinct.kp G_distinct.bn tkD (pa_cons (pv 1) pa_nil)) rfl)))
theorem g_Committee___init__ (T : Txt K mg A) : GMet PG w K mg base A.a_Committee___init__ A.d_Committee___init__ 3 ["self", "names"] (MirF m_Committee___init__) := ⟨ok_Committee___init__ T, (T.F_Committee___init__).binds fun _ _ _ _ _ _ us hl => match us, hl with | [_, _], _ => rfl⟩
theorem ok_Ranking_alternatives (T : Txt K mg A) : FnOk PG w K mg base (L2.CX PG w) 1 A.a_Ranking_alternatives A.d_Ranking_alternatives ["self"] (spF K (MirF m_Ranking_alternatives)) := by
  refine def_okM T.F_Ranking_alternatives sc_Ranking_alternatives (fun cdv A' outer s H E hr => ?_)
  refine ⟨_, ?p, fun k0 => (rm_ret (em_cb ok_list (am_cons (em_fld T.cl_Ranking T.o_Ranking.cl T.n_Ranking_order em_var) am_nil)))⟩
  exact (pss_one (ps_ret (pe_callTy call_listOf (by rfl) T.b_list (by decide +kernel) (pa_cons (pe_fld (pv 0) rfl) pa_nil))))
theorem g_Ranking_alternatives (T : Txt K mg A) : GMet PG w K mg base A.a_Ranking_alternatives A.d_Ranking_alternatives 1 ["self"] (MirF m_Ranking_alternatives) := ⟨ok_Ranking_alternatives T, (T.F_Ranking_alternatives).binds fun _ _ _ _ _ _ us hl => match us, hl with | [_], _ => rfl⟩
theorem ok_as_committee (T : Txt K mg A) : FnOk PG w K mg base (L2.CX PG w) 5 A.a_as_committee A.d_as_committee ["ranking"] (spF K (MirF m_as_committee)) := by
  have G_Committee___init__ := g_Committee___init__ (w := w) (base := base) T
  have G_Ranking_alternatives := g_Ranking_alternatives (w := w) (base := base) T
  refine def_okM T.F_as_committee sc_as_committee (fun cdv A' outer s H E hr => ?_)
  refine ⟨_, ?p, fun k0 => (rm_ret (em_make T.gn_Committee (am_cons (em_prop (E := E0) T.cl_Ranking em_var) am_nil)))⟩
  exact (pss_one (ps_ret (pe_makeS T.m_Committee G_Committee___init__.ok (hr.mono (by decide)) rfl T.g_Committee G_Committee___init__.bn tkD (pa_cons (pe_prop (pv 0) T.o_Ranking.cl T.q_Ranking_alternatives G_Ranking_alternatives.ok (hr.mono (by decide)) G_Ranking_alternatives.bn .nil passL rfl) pa_nil))))
theorem g_as_committee (T : Txt K mg A) : GDef PG w K mg base "as_committee" A.a_as_committee A.d_as_committee 5 ["ranking"] (MirF m_as_committee) := ⟨ok_as_committee T, T.gl_as_committee, T.F_as_committee.kp, (T.F_as_committee).binds fun _ _ _ _ _ _ us hl => match us, hl with | [_], _ => rfl⟩
theorem ok_check_rankings (T : Txt K mg A) : FnOk PG w K mg base (L2.CX PG w) 6 A.a_check_rankings A.d_check_rankings ["rankings"] (spF K (MirF m_check_rankings)) := by
  have G_Committee___eq__ := g_Committee___eq__ (w := w) (base := base) T
  have G_as_committee := g_as_committee (w := w) (base := base) T
  have G_is_name := g_is_name (w := w) (base := base) T
  refine def_okM T.F_check_rankings sc_check_rankings (fun cdv A' outer s H E hr => ?_)
  refine ⟨_, ?p, fun k0 => (rm_seq (rm_if (tm_or (tm_not (tm_b (em_cb (ok_isi T.tab) (am_cons em_var (am_cons em_con am_nil))))) (tm_test (em_op ok_eqK em_var em_dnew))) (rm_raise (t := fun _ H Q => Q (.ref A.c_InvalidGame) none H) fun σ H Q h => by rw [T.cl_InvalidGame] at h; exact h) rm_nil) (rm_seq (rm_if (tm_not (tm_b (em_cb ok_all (am_cons (em_lc (W' := W0) (vs := [2, 3]) (im_items em_var) (gw_tup (gws_cons (by decide) (gws_cons (by decide) gws_nil)) rfl) tm_yes (em_and (em_call (am_cons em_var am_nil)) (em_cb (ok_isi T.tab) (am_cons em_var (am_cons (em_glb T.gn_Ranking) am_nil))))) am_nil)))) (rm_raise (t := fun _ H Q => Q (.ref A.c_InvalidGame) none H) fun σ H Q h => by rw [T.cl_InvalidGame] at h; exact h) rm_nil) (rm_seq (rm_asg (em_op ok_ixL (em_listV em_var) em_con)) (rm_if (tm_not (tm_b (em_cb ok_all (am_cons (em_lc (W' := W0) (vs := [3]) (im_vals em_var) (gw_name (by decide)) tm_yes (em_eqO T.tab T.cl_Committee (em_call (am_cons em_var am_nil)) (em_call (am_cons em_var am_nil)))) am_nil)))) (rm_raise (t := fun _ H Q => Q (.ref A.c_InvalidGame) none H) fun σ H Q h => by rw [T.cl_InvalidGame] at h; exact h) rm_nil))))⟩
  exact (pss_cons (ps_if (PW.pt (pw_or (pt_not (pt_val (pe_callB call_isi (by rfl) T.b_isinstance (by decide +kernel) (pa_cons (pv 0) (pa_cons (pe_bltn (v := .ty "dict") rfl T.b_dict (by decide +kernel) rfl) pa_nil))))) (pw_or1 (pt_cmpR (op_eqK (Mr.hu65 hr)) (pv 0) pe_dnewK (nomark _))))) (pss_one (ps_raiseR (t := fun _ H Q => Q (.ref A.c_InvalidGame) none H) rfl tkD (pmk_own PySem.F.excBase_ValueError T.x_InvalidGame T.g_InvalidGame T.k_InvalidGame (raises_own T.s_InvalidGame T.t_InvalidGame) rfl))) pss_nil) (pss_cons (ps_if (pt_not (pt_val (pe_callB (cr_all rfl) (by rfl) T.b_all (by decide +kernel) (pa_cons (pe_lc (own := [("player", 2), ("ranking", 3)]) (tt := tYes) rfl sc_check_rankings.nd (pi_items (pe_lk (pv 0))) (blkOk_by (N := N_check_rankings) (sc := defScope s_check_rankings) (by decide +kernel)) (fun _ _ _ _ _ => (pg_tup rfl (pgs_cons (pg_name (i := 2) sc_check_rankings.nd rfl (Or.inl rfl)) (pgs_cons (pg_name (i := 3) sc_check_rankings.nd rfl (Or.inl rfl)) pgs_nil)))) (fun _ _ _ _ _ => pts_nil) (fun _ _ _ _ _ => (pe_and (pe_callF G_is_name.ok (hr.mono (by decide)) rfl G_is_name.mgx G_is_name.kp G_is_name.bn takes0 (pa_cons (pv 2) pa_nil)) (pe_one (pe_callB call_isi (by rfl) T.b_isinstance (by decide +kernel) (pa_cons (pv 3) (pa_cons (pe_glob (v := .ref A.c_Ranking) rfl T.g_Ranking rfl) pa_nil))))))) pa_nil)))) (pss_one (ps_raiseR (t := fun _ H Q => Q (.ref A.c_InvalidGame) none H) rfl tkD (pmk_own PySem.F.excBase_ValueError T.x_InvalidGame T.g_InvalidGame T.k_InvalidGame (raises_own T.s_InvalidGame T.t_InvalidGame) rfl))) pss_nil) (pss_cons (ps_set (i := 1) sc_check_rankings.nd rfl (Or.inr rfl) (pe_ix ix_list (pe_listV rfl rfl T.b_list (pv 0)) pe_int (fun _ _ => rfl))) (pss_one (ps_if (pt_not (pt_val (pe_callB (cr_all rfl) (by rfl) T.b_all (by decide +kernel) (pa_cons (pe_lc (own := [("ranking", 3)]) (tt := tYes) rfl sc_check_rankings.nd (pi_values (pe_lk (pv 0))) (blkOk_by (N := N_check_rankings) (sc := defScope s_check_rankings) (by decide +kernel)) (fun _ _ _ _ _ => (pg_name (i := 3) sc_check_rankings.nd rfl (Or.inl rfl))) (fun _ _ _ _ _ => pts_nil) (fun _ _ _ _ _ => (pe_cmpR (op_eqO T.p_Committee___eq__ G_Committee___eq__.ok (hr.mono (by decide)) G_Committee___eq__.bn) (pe_callF G_as_committee.ok (hr.mono (by decide)) rfl G_as_committee.mgx G_as_committee.kp G_as_committee.bn takes0 (pa_cons (pv 3) pa_nil)) (pe_callF G_as_committee.ok (hr.mono (by decide)) rfl G_as_committee.mgx G_as_committee.kp G_as_committee.bn takes0 (pa_cons (pv 1) pa_nil)) (nomark _)))) pa_nil)))) (pss_one (ps_raiseR (t := fun _ H Q => Q (.ref A.c_InvalidGame) none H) rfl tkD (pmk_own PySem.F.excBase_ValueError T.x_InvalidGame T.g_InvalidGame T.k_InvalidGame (raises_own T.s_InvalidGame T.t_InvalidGame) rfl))) pss_nil)))))
theorem g_check_rankings (T : Txt K mg A) : GDef PG w K mg base "check_rankings" A.a_check_rankings A.d_check_rankings 6 ["rankings"] (MirF m_check_rankings) := ⟨ok_check_rankings T, T.gl_check_rankings, T.F_check_rankings.kp, (T.F_check_rankings).binds fun _ _ _ _ _ _ us hl => match us, hl with | [_], _ => rfl⟩
theorem ok_Turns___len__ (T : Txt K mg A) : FnOk PG w K mg base (L2.CX PG w) 1 A.a_Turns___len__ A.d_Turns___len__ ["self"] (spF K (MirF m_Turns___len__)) := by
  refine def_okM T.F_Turns___len__ sc_Turns___len__ (fun cdv A' outer s H E hr => ?_)
  refine ⟨_, ?p, fun k0 => (rm_ret (em_cb ok_len (am_cons (em_fld T.cl_Turns T.o_Turns.cl T.n_Turns_order em_var) am_nil)))⟩
  exact (pss_one (ps_ret (pe_callB call_lenA (by rfl) T.b_len (by decide +kernel) (pa_cons (pe_fld (pv 0) rfl) pa_nil))))
theorem g_Turns___len__ (T : Txt K mg A) : GMet PG w K mg base A.a_Turns___len__ A.d_Turns___len__ 1 ["self"] (MirF m_Turns___len__) := ⟨ok_Turns___len__ T, (T.F_Turns___len__).binds fun _ _ _ _ _ _ us hl => match us, hl with | [_], _ => rfl⟩
theorem ok_Game_first_ranking (T : Txt K mg A) : FnOk PG w K mg base (L2.CX PG w) 1 A.a_Game_first_ranking A.d_Game_first_ranking ["self"] (spF K (MirF m_Game_first_ranking)) := by
  refine def_okM T.F_Game_first_ranking sc_Game_first_ranking (fun cdv A' outer s H E hr => ?_)
  refine ⟨_, ?p, fun k0 => (rm_ret (em_op ok_ixL (em_listV (em_fld T.cl_Game T.o_Game.cl T.n_Game_own_rankings em_var)) em_con))⟩
  exact (pss_one (ps_ret (pe_ix ix_list (pe_listV rfl rfl T.b_list (pe_fld (pv 0) rfl)) pe_int (fun _ _ => rfl))))
theorem g_Game_first_ranking (T : Txt K mg A) : GMet PG w K mg base A.a_Game_first_ranking A.d_Game_first_ranking 1 ["self"] (MirF m_Game_first_ranking) := ⟨ok_Game_first_ranking T, (T.F_Game_first_ranking).binds fun _ _ _ _ _ _ us hl => match us, hl with | [_], _ => rfl⟩
theorem ok_Ranking___len__ (T : Txt K mg A) : FnOk PG w K mg base (L2.CX PG w) 1 A.a_Ranking___len__ A.d_Ranking___len__ ["self"] (spF K (MirF m_Ranking___len__)) := by
  refine def_okM T.F_Ranking___len__ sc_Ranking___len__ (fun cdv A' outer s H E hr => ?_)
  refine ⟨_, ?p, fun k0 => (rm_ret (em_cb ok_len (am_cons (em_fld T.cl_Ranking T.o_Ranking.cl T.n_Ranking_order em_var) am_nil)))⟩
  exact (pss_one (ps_ret (pe_callB call_lenA (by rfl) T.b_len (by decide +kernel) (pa_cons (pe_fld (pv 0) rfl) pa_nil))))
theorem g_Ranking___len__ (T : Txt K mg A) : GMet PG w K mg base A.a_Ranking___len__ A.d_Ranking___len__ 1 ["self"] (MirF m_Ranking___len__) := ⟨ok_Ranking___len__ T, (T.F_Ranking___len__).binds fun _ _ _ _ _ _ us hl => match us, hl with | [_], _ => rfl⟩
theorem ok_Turns_players (T : Txt K mg A) : FnOk PG w K mg base (L2.CX PG w) 1 A.a_Turns_players A.d_Turns_players ["self"] (spF K (MirF m_Turns_players)) := by
  refine def_okM T.F_Turns_players sc_Turns_players (fun cdv A' outer s H E hr => ?_)
  refine ⟨_, ?p, fun k0 => (rm_ret (em_cb ok_list (am_cons (em_fld T.cl_Turns T.o_Turns.cl T.n_Turns_order em_var) am_nil)))⟩
  exact (pss_one (ps_ret (pe_callTy call_listOf (by rfl) T.b_list (by decide +kernel) (pa_cons (pe_fld (pv 0) rfl) pa_nil))))
theorem g_Turns_players (T : Txt K mg A) : GMet PG w K mg base A.a_Turns_players A.d_Turns_players 1 ["self"] (MirF m_Turns_players) := ⟨ok_Turns_players T, (T.F_Turns_players).binds fun _ _ _ _ _ _ us hl => match us, hl with | [_], _ => rfl⟩
theorem ok_Game_check_turns (T : Txt K mg A) : FnOk PG w K mg base (L2.CX PG w) 3 A.a_Game_check_turns A.d_Game_check_turns ["self", "turns"] (spF K (MirF m_Game_check_turns)) := by
  have G_Game_first_ranking := g_Game_first_ranking (w := w) (base := base) T
  have G_Ranking___len__ := g_Ranking___len__ (w := w) (base := base) T
  have G_Turns___len__ := g_Turns___len__ (w := w) (base := base) T
  have G_Turns_players := g_Turns_players (w := w) (base := base) T
  refine def_okM T.F_Game_check_turns sc_Game_check_turns (fun cdv A' outer s H E hr => ?_)
  refine ⟨_, ?p, fun k0 => (rm_seq (rm_if (tm_or (tm_not (tm_b (em_cb (ok_isi T.tab) (am_cons em_var (am_cons (em_glb T.gn_Turns) am_nil))))) (tm_test (em_op ok_iP (em_lenO T.cl_Turns (am_cons em_var am_nil)) (em_lenO T.cl_Ranking (am_cons (em_meth T.cl_Game em_var am_nil) am_nil))))) (rm_raise (t := fun _ H Q => Q (.ref A.c_InvalidTurns) none H) fun σ H Q h => by rw [T.cl_InvalidTurns] at h; exact h) rm_nil) (rm_if (tm_not (tm_b (em_cb ok_all (am_cons (em_lc (W' := W0) (vs := [2]) (im_list (em_prop (E := E0) T.cl_Turns em_var)) (gw_name (by decide)) tm_yes (em_din em_var (em_fld T.cl_Game T.o_Game.cl T.n_Game_own_rankings em_var))) am_nil)))) (rm_raise (t := fun _ H Q => Q (.ref A.c_InvalidTurns) none H) fun σ H Q h => by rw [T.cl_InvalidTurns] at h; exact h) rm_nil))⟩
  exact (pss_cons (ps_if (PW.pt (pw_or (pt_not (pt_val (pe_callB call_isi (by rfl) T.b_isinstance (by decide +kernel) (pa_cons (pv 1) (pa_cons (pe_glob (v := .ref A.c_Turns) rfl T.g_Turns rfl) pa_nil))))) (pw_or1 (pt_cmpR op_gt (pe_callB (call_lenO T.p_Turns___len__ G_Turns___len__.ok (hr.mono (by decide)) G_Turns___len__.bn) (by rfl) T.b_len (by decide +kernel) (pa_cons (pv 1) pa_nil)) (pe_callB (call_lenO T.p_Ranking___len__ G_Ranking___len__.ok (hr.mono (by decide)) G_Ranking___len__.bn) (by rfl) T.b_len (by decide +kernel) (pa_cons (pe_methS0 (pv 0) T.o_Game.cl T.h_Game_first_ranking G_Game_first_ranking.ok (hr.mono (by decide)) G_Game_first_ranking.bn tkD) pa_nil)) (nomark _))))) (pss_one (ps_raiseR (t := fun _ H Q => Q (.ref A.c_InvalidTurns) none H) rfl tkD (pmk_own PySem.F.excBase_ValueError T.x_InvalidTurns T.g_InvalidTurns T.k_InvalidTurns (raises_own T.s_InvalidTurns T.t_InvalidTurns) rfl))) pss_nil) (pss_one (ps_if (pt_not (pt_val (pe_callB (cr_all rfl) (by rfl) T.b_all (by decide +kernel) (pa_cons (pe_lc (own := [("player", 2)]) (tt := tYes) rfl sc_Game_check_turns.nd (pi_list (pe_prop (pv 1) T.o_Turns.cl T.q_Turns_players G_Turns_players.ok (hr.mono (by decide)) G_Turns_players.bn .nil passL rfl)) (blkOk_by (N := N_Game_check_turns) (sc := defScope s_Game_check_turns) (by decide +kernel)) (fun _ _ _ _ _ => (pg_name (i := 2) sc_Game_check_turns.nd rfl (Or.inl rfl))) (fun _ _ _ _ _ => pts_nil) (fun _ _ _ _ _ => (pe_cmp (pc_din (hu_of hr) (pv 2) (pe_fld (pv 0) rfl))))) pa_nil)))) (pss_one (ps_raiseR (t := fun _ H Q => Q (.ref A.c_InvalidTurns) none H) rfl tkD (pmk_own PySem.F.excBase_ValueError T.x_InvalidTurns T.g_InvalidTurns T.k_InvalidTurns (raises_own T.s_InvalidTurns T.t_InvalidTurns) rfl))) pss_nil)))
theorem g_Game_check_turns (T : Txt K mg A) : GMet PG w K mg base A.a_Game_check_turns A.d_Game_check_turns 3 ["self", "turns"] (MirF m_Game_check_turns) := ⟨ok_Game_check_turns T, (T.F_Game_check_turns).binds fun _ _ _ _ _ _ us hl => match us, hl with | [_, _], _ => rfl⟩
theorem ok_Game___init__ (T : Txt K mg A) : FnOk PG w K mg base (L2.CX PG w) 7 A.a_Game___init__ A.d_Game___init__ ["self", "rankings", "turns"] (spF K (MirF m_Game___init__)) := by
  have G_Game_check_turns := g_Game_check_turns (w := w) (base := base) T
  have G_check_rankings := g_check_rankings (w := w) (base := base) T
  refine def_okM T.F_Game___init__ sc_Game___init__ (fun cdv A' outer s H E hr => ?_)
  refine ⟨_, ?p, fun k0 => (rm_seq (rm_drop (em_call (am_cons em_var am_nil))) (rm_seq (rm_fldS T.cl_Game T.o_Game.cl T.n_Game_own_rankings (em_dc (W' := W0) (vs := [3]) (im_list (em_cb ok_sortD (am_cons em_var am_nil))) (gw_name (by decide)) tm_yes em_var (em_dget em_var em_var)) em_var) (rm_seq (rm_drop (em_meth T.cl_Game em_var (am_cons em_var am_nil))) (rm_fldS T.cl_Game T.o_Game.cl T.n_Game_own_turns em_var em_var))))⟩
  exact (pss_cons (ps_expr (pe_callF G_check_rankings.ok (hr.mono (by decide)) rfl G_check_rankings.mgx G_check_rankings.kp G_check_rankings.bn tkD (pa_cons (pv 1) pa_nil))) (pss_cons (ps_fld (pv 0) (pe_dc (own := [("player", 3)]) (tt := tYes) rfl sc_Game___init__.nd (pi_list (pe_callB (call_sortedD' rfl) (by rfl) T.b_sorted (by decide +kernel) (pa_cons (pv 1) pa_nil))) (blkOk_by (N := N_Game___init__) (sc := defScope s_Game___init__) (by decide +kernel)) (fun _ _ _ _ _ => (pg_name (i := 3) sc_Game___init__.nd rfl (Or.inl rfl))) (fun _ _ _ _ _ => pts_nil) (fun _ _ _ _ _ => (pv 3)) (fun _ _ _ _ _ => (pe_dget (hu_of hr) (pv 1) (pv 3) (fun _ _ => rfl)))) rfl) (pss_cons (ps_expr (pe_methS (pv 0) T.o_Game.cl T.h_Game_check_turns G_Game_check_turns.ok (hr.mono (by decide)) G_Game_check_turns.bn tkD (pa_cons (pv 2) pa_nil))) (pss_one (ps_fld (pv 0) (pv 2) rfl)))))
theorem g_Game___init__ (T : Txt K mg A) : GMet PG w K mg base A.a_Game___init__ A.d_Game___init__ 7 ["self", "rankings", "turns"] (MirF m_Game___init__) := ⟨ok_Game___init__ T, (T.F_Game___init__).binds fun _ _ _ _ _ _ us hl => match us, hl with | [_, _, _], _ => rfl⟩
theorem ok_Turns___init__ (T : Txt K mg A) : FnOk PG w K mg base (L2.CX PG w) 3 A.a_Turns___init__ A.d_Turns___init__ ["self", "players"] (spF K (MirF m_Turns___init__)) := by
  have G_are_names := g_are_names (w := w) (base := base) T
  refine def_okM T.F_Turns___init__ sc_Turns___init__ (fun cdv A' outer s H E hr => ?_)
  refine ⟨_, ?p, fun k0 => (rm_seq (rm_if (tm_or (tm_not (tm_b (em_call (am_cons em_var am_nil)))) (tm_test (em_op ok_iP (em_cb ok_len (am_cons em_var am_nil)) em_con))) (rm_raise (t := fun _ H Q => Q (.ref A.c_InvalidTurns) none H) fun σ H Q h => by rw [T.cl_InvalidTurns] at h; exact h) rm_nil) (rm_fldS T.cl_Turns T.o_Turns.cl T.n_Turns_order (em_cb ok_list (am_cons em_var am_nil)) em_var))⟩
  exact (pss_cons (ps_if (PW.pt (pw_or (pt_not (pt_val (pe_callF G_are_names.ok (hr.mono (by decide)) rfl G_are_names.mgx G_are_names.kp G_are_names.bn tkD (pa_cons (pv 1) pa_nil)))) (pw_or1 (pt_cmpR op_gt (pe_callB call_lenA (by rfl) T.b_len (by decide +kernel) (pa_cons (pv 1) pa_nil)) (pe_glob (v := K_MAX_NAMES) rfl T.v_MAX_NAMES T.r_MAX_NAMES) (nomark _))))) (pss_one (ps_raiseR (t := fun _ H Q => Q (.ref A.c_InvalidTurns) none H) rfl tkD (pmk_own PySem.F.excBase_ValueError T.x_InvalidTurns T.g_InvalidTurns T.k_InvalidTurns (raises_own T.s_InvalidTurns T.t_InvalidTurns) rfl))) pss_nil) (pss_one (ps_fld (pv 0) (pe_callTy call_listOf (by rfl) T.b_list (by decide +kernel) (pa_cons (pv 1) pa_nil)) rfl)))
theorem g_Turns___init__ (T : Txt K mg A) : GMet PG w K mg base A.a_Turns___init__ A.d_Turns___init__ 3 ["self", "players"] (MirF m_Turns___init__) := ⟨ok_Turns___init__ T, (T.F_Turns___init__).binds fun _ _ _ _ _ _ us hl => match us, hl with | [_, _], _ => rfl⟩
theorem ok_Ranking___init__ (T : Txt K mg A) : FnOk PG w K mg base (L2.CX PG w) 3 A.a_Ranking___init__ A.d_Ranking___init__ ["self", "alternatives"] (spF K (MirF m_Ranking___init__)) := by
  have G_are_names := g_are_names (w := w) (base := base) T
  have G_distinct := g_distinct (w := w) (base := base) T
  refine def_okM T.F_Ranking___init__ sc_Ranking___init__ (fun cdv A' outer s H E hr => ?_)
  refine ⟨_, ?p, fun k0 => (rm_seq (rm_if (tm_or (tm_not (tm_b (em_call (am_cons em_var am_nil)))) (tm_test (em_op ok_iP (em_cb ok_len (am_cons em_var am_nil)) em_con))) (rm_raise (t := fun _ H Q => Q (.ref A.c_InvalidRanking) none H) fun σ H Q h => by rw [T.cl_InvalidRanking] at h; exact h) rm_nil) (rm_seq (rm_if (tm_test (em_op ok_ne (em_cb ok_len (am_cons (em_call (am_cons em_var am_nil)) am_nil)) (em_cb ok_len (am_cons em_var am_nil)))) (rm_raise (t := fun _ H Q => Q (.ref A.c_InvalidRanking) none H) fun σ H Q h => by rw [T.cl_InvalidRanking] at h; exact h) rm_nil) (rm_seq (rm_fldS T.cl_Ranking T.o_Ranking.cl T.n_Ranking_order (em_cb ok_list (am_cons em_var am_nil)) em_var) (rm_fldS T.cl_Ranking T.o_Ranking.cl T.n_Ranking_places (em_dc (W' := W0) (vs := [2, 3]) (im_enum (pm_cons (em_fld T.cl_Ranking T.o_Ranking.cl T.n_Ranking_order em_var) pm_nil)) (gw_tup (gws_cons (by decide) (gws_cons (by decide) gws_nil)) rfl) tm_yes em_var em_var) em_var))))⟩
  exact (pss_cons (ps_if (PW.pt (pw_or (pt_not (pt_val (pe_callF G_are_names.ok (hr.mono (by decide)) rfl G_are_names.mgx G_are_names.kp G_are_names.bn tkD (pa_cons (pv 1) pa_nil)))) (pw_or1 (pt_cmpR op_gt (pe_callB call_lenA (by rfl) T.b_len (by decide +kernel) (pa_cons (pv 1) pa_nil)) (pe_glob (v := K_MAX_NAMES) rfl T.v_MAX_NAMES T.r_MAX_NAMES) (nomark _))))) (pss_one (ps_raiseR (t := fun _ H Q => Q (.ref A.c_InvalidRanking) none H) rfl tkD (pmk_own PySem.F.excBase_ValueError T.x_InvalidRanking T.g_InvalidRanking T.k_InvalidRanking (raises_own T.s_InvalidRanking T.t_InvalidRanking) rfl))) pss_nil) (pss_cons (ps_if (pt_cmpR (op_neD (Mr.hu64 hr)) (pe_callB call_lenA (by rfl) T.b_len (by decide +kernel) (pa_cons (pe_callF G_distinct.ok (hr.mono (by decide)) rfl G_distinct.mgx G_distinct.kp G_distinct.bn tkD (pa_cons (pv 1) pa_nil)) pa_nil)) (pe_callB call_lenA (by rfl) T.b_len (by decide +kernel) (pa_cons (pv 1) pa_nil)) (nomark _)) (pss_one (ps_raiseR (t := fun _ H Q => Q (.ref A.c_InvalidRanking) none H) rfl tkD (pmk_own PySem.F.excBase_ValueError T.x_InvalidRanking T.g_InvalidRanking T.k_InvalidRanking (raises_own T.s_InvalidRanking T.t_InvalidRanking) rfl))) pss_nil) (pss_cons (ps_fld (pv 0) (pe_callTy call_listOf (by rfl) T.b_list (by decide +kernel) (pa_cons (pv 1) pa_nil)) rfl) (pss_one (ps_fld (pv 0) (pe_dc (own := [("place", 2), ("name", 3)]) (tt := tYes) rfl sc_Ranking___init__.nd (pi_enum rfl T.b_enumerate (pa_cons (pe_fld (pv 0) rfl) pa_nil)) (blkOk_by (N := N_Ranking___init__) (sc := defScope s_Ranking___init__) (by decide +kernel)) (fun _ _ _ _ _ => (pg_tup rfl (pgs_cons (pg_name (i := 2) sc_Ranking___init__.nd rfl (Or.inl rfl)) (pgs_cons (pg_name (i := 3) sc_Ranking___init__.nd rfl (Or.inl rfl)) pgs_nil)))) (fun _ _ _ _ _ => pts_nil) (fun _ _ _ _ _ => (pv 3)) (fun _ _ _ _ _ => (pv 2))) rfl)))))
theorem g_Ranking___init__ (T : Txt K mg A) : GMet PG w K mg base A.a_Ranking___init__ A.d_Ranking___init__ 3 ["self", "alternatives"] (MirF m_Ranking___init__) := ⟨ok_Ranking___init__ T, (T.F_Ranking___init__).binds fun _ _ _ _ _ _ us hl => match us, hl with | [_, _], _ => rfl⟩
theorem ok__law_made (T : Txt K mg A) : FnOk PG w K mg base (L2.CX PG w) 9 A.a__law_made A.d__law_made ["_law_drawn_here"] (spF K (MirF m__law_made)) := by
  have G_Game___init__ := g_Game___init__ (w := w) (base := base) T
  have G_Ranking___init__ := g_Ranking___init__ (w := w) (base := base) T
  have G_Turns___init__ := g_Turns___init__ (w := w) (base := base) T
  refine def_okM T.F__law_made sc__law_made (fun cdv A' outer s H E hr => ?_)
  refine ⟨_, ?p, fun k0 => (rm_seq (rm_asgT em_var (gm_unl (ga_cons gm_name (ga_cons gm_name ga_nil)) rfl)) (rm_ret (em_make T.gn_Game (am_cons (em_cb ok_dictP (am_cons (em_lc (W' := W0) (vs := [3]) (im_keys em_var) (gw_name (by decide)) tm_yes (em_tup (pm_cons em_var (pm_cons (em_make T.gn_Ranking (am_cons (em_dget em_var em_var) am_nil)) pm_nil)))) am_nil)) (am_cons (em_make T.gn_Turns (am_cons em_var am_nil)) am_nil)))))⟩
  exact (pss_cons (ps_asg (pv 0) (pg_unl rfl (pgs_cons (pg_name (i := 1) sc__law_made.nd rfl (Or.inr rfl)) (pgs_cons (pg_name (i := 2) sc__law_made.nd rfl (Or.inl rfl)) pgs_nil)))) (pss_one (ps_ret (pe_makeS T.m_Game G_Game___init__.ok (hr.mono (by decide)) rfl T.g_Game G_Game___init__.bn tkD (pa_cons (pe_callTy (call_dictPk rfl) (by rfl) T.b_dict (by decide +kernel) (pa_cons (pe_lc (own := [("_law_player", 3)]) (tt := tYes) rfl sc__law_made.nd (pi_keys (pe_lk (pv 1))) (blkOk_by (N := N__law_made) (sc := defScope s__law_made) (by decide +kernel)) (fun _ _ _ _ _ => (pg_name (i := 3) sc__law_made.nd rfl (Or.inl rfl))) (fun _ _ _ _ _ => pts_nil) (fun _ _ _ _ _ => (pe_tup (pa_cons (pv 3) (pa_cons (pe_makeS T.m_Ranking G_Ranking___init__.ok (hr.mono (by decide)) rfl T.g_Ranking G_Ranking___init__.bn takes0 (pa_cons (pe_dget (hu_of hr) (pv 1) (pv 3) (fun _ _ => rfl)) pa_nil)) pa_nil))))) pa_nil)) (pa_cons (pe_makeS T.m_Turns G_Turns___init__.ok (hr.mono (by decide)) rfl T.g_Turns G_Turns___init__.bn tkD (pa_cons (pv 2) pa_nil)) pa_nil))))))
theorem g__law_made (T : Txt K mg A) : GDef PG w K mg base "_law_made" A.a__law_made A.d__law_made 9 ["_law_drawn_here"] (MirF m__law_made) := ⟨ok__law_made T, T.gl__law_made, T.F__law_made.kp, (T.F__law_made).binds fun _ _ _ _ _ _ us hl => match us, hl with | [_], _ => rfl⟩
theorem ok_Committee___sub__ (T : Txt K mg A) : FnOk PG w K mg base (L2.CX PG w) 5 A.a_Committee___sub__ A.d_Committee___sub__ ["self", "other"] (spF K (MirF m_Committee___sub__)) := by
  have G_Committee___init__ := g_Committee___init__ (w := w) (base := base) T
  refine def_okM T.F_Committee___sub__ sc_Committee___sub__ (fun cdv A' outer s H E hr => ?_)
  refine ⟨_, ?p, fun k0 => (rm_ret (em_make T.gn_Committee (am_cons (em_lc (W' := W0) (vs := [2]) (im_list (em_fld T.cl_Committee T.o_Committee.cl T.n_Committee_own_members em_var)) (gw_name (by decide)) (tm_test (em_op ok_nin em_var (em_fld T.cl_Committee T.o_Committee.cl T.n_Committee_own_members em_var))) em_var) am_nil)))⟩
  exact (pss_one (ps_ret (pe_makeS T.m_Committee G_Committee___init__.ok (hr.mono (by decide)) rfl T.g_Committee G_Committee___init__.bn tkD (pa_cons (pe_lc (own := [("name", 2)]) rfl sc_Committee___sub__.nd (pi_list (pe_fld (pv 0) rfl)) (blkOk_by (N := N_Committee___sub__) (sc := defScope s_Committee___sub__) (by decide +kernel)) (fun _ _ _ _ _ => (pg_name (i := 2) sc_Committee___sub__.nd rfl (Or.inl rfl))) (fun _ _ _ _ _ => (pts_one (pt_cmpR op_notIn_seq (pv 2) (pe_fld (pv 1) rfl) rfl))) (fun _ _ _ _ _ => (pv 2))) pa_nil))))
theorem g_Committee___sub__ (T : Txt K mg A) : GMet PG w K mg base A.a_Committee___sub__ A.d_Committee___sub__ 5 ["self", "other"] (MirF m_Committee___sub__) := ⟨ok_Committee___sub__ T, (T.F_Committee___sub__).binds fun _ _ _ _ _ _ us hl => match us, hl with | [_, _], _ => rfl⟩
theorem ok_Game_alternatives (T : Txt K mg A) : FnOk PG w K mg base (L2.CX PG w) 6 A.a_Game_alternatives A.d_Game_alternatives ["self"] (spF K (MirF m_Game_alternatives)) := by
  have G_Game_first_ranking := g_Game_first_ranking (w := w) (base := base) T
  have G_as_committee := g_as_committee (w := w) (base := base) T
  refine def_okM T.F_Game_alternatives sc_Game_alternatives (fun cdv A' outer s H E hr => ?_)
  refine ⟨_, ?p, fun k0 => (rm_ret (em_call (am_cons (em_meth T.cl_Game em_var am_nil) am_nil)))⟩
  exact (pss_one (ps_ret (pe_callF G_as_committee.ok (hr.mono (by decide)) rfl G_as_committee.mgx G_as_committee.kp G_as_committee.bn tkD (pa_cons (pe_methS0 (pv 0) T.o_Game.cl T.h_Game_first_ranking G_Game_first_ranking.ok (hr.mono (by decide)) G_Game_first_ranking.bn tkD) pa_nil))))
theorem g_Game_alternatives (T : Txt K mg A) : GMet PG w K mg base A.a_Game_alternatives A.d_Game_alternatives 6 ["self"] (MirF m_Game_alternatives) := ⟨ok_Game_alternatives T, (T.F_Game_alternatives).binds fun _ _ _ _ _ _ us hl => match us, hl with | [_], _ => rfl⟩
theorem ok_Game_turns (T : Txt K mg A) : FnOk PG w K mg base (L2.CX PG w) 1 A.a_Game_turns A.d_Game_turns ["self"] (spF K (MirF m_Game_turns)) := by
  refine def_okM T.F_Game_turns sc_Game_turns (fun cdv A' outer s H E hr => ?_)
  refine ⟨_, ?p, fun k0 => (rm_ret (em_fld T.cl_Game T.o_Game.cl T.n_Game_own_turns em_var))⟩
  exact (pss_one (ps_ret (pe_fld (pv 0) rfl)))
theorem g_Game_turns (T : Txt K mg A) : GMet PG w K mg base A.a_Game_turns A.d_Game_turns 1 ["self"] (MirF m_Game_turns) := ⟨ok_Game_turns T, (T.F_Game_turns).binds fun _ _ _ _ _ _ us hl => match us, hl with | [_], _ => rfl⟩
theorem ok_Committee_members (T : Txt K mg A) : FnOk PG w K mg base (L2.CX PG w) 1 A.a_Committee_members A.d_Committee_members ["self"] (spF K (MirF m_Committee_members)) := by
  refine def_okM T.F_Committee_members sc_Committee_members (fun cdv A' outer s H E hr => ?_)
  refine ⟨_, ?p, fun k0 => (rm_ret (em_cb ok_list (am_cons (em_fld T.cl_Committee T.o_Committee.cl T.n_Committee_own_members em_var) am_nil)))⟩
  exact (pss_one (ps_ret (pe_callTy call_listOf (by rfl) T.b_list (by decide +kernel) (pa_cons (pe_fld (pv 0) rfl) pa_nil))))
theorem g_Committee_members (T : Txt K mg A) : GMet PG w K mg base A.a_Committee_members A.d_Committee_members 1 ["self"] (MirF m_Committee_members) := ⟨ok_Committee_members T, (T.F_Committee_members).binds fun _ _ _ _ _ _ us hl => match us, hl with | [_], _ => rfl⟩
theorem ok_Ranking___and__ (T : Txt K mg A) : FnOk PG w K mg base (L2.CX PG w) 5 A.a_Ranking___and__ A.d_Ranking___and__ ["self", "committee"] (spF K (MirF m_Ranking___and__)) := by
  have G_Committee_members := g_Committee_members (w := w) (base := base) T
  have G_Ranking___init__ := g_Ranking___init__ (w := w) (base := base) T
  refine def_okM T.F_Ranking___and__ sc_Ranking___and__ (fun cdv A' outer s H E hr => ?_)
  refine ⟨_, ?p, fun k0 => (rm_ret (em_make T.gn_Ranking (am_cons (em_lc (W' := W0) (vs := [2]) (im_list (em_fld T.cl_Ranking T.o_Ranking.cl T.n_Ranking_order em_var)) (gw_name (by decide)) (tm_test (em_op ok_in em_var (em_prop (E := E0) T.cl_Committee em_var))) em_var) am_nil)))⟩
  exact (pss_one (ps_ret (pe_makeS T.m_Ranking G_Ranking___init__.ok (hr.mono (by decide)) rfl T.g_Ranking G_Ranking___init__.bn tkD (pa_cons (pe_lc (own := [("name", 2)]) rfl sc_Ranking___and__.nd (pi_list (pe_fld (pv 0) rfl)) (blkOk_by (N := N_Ranking___and__) (sc := defScope s_Ranking___and__) (by decide +kernel)) (fun _ _ _ _ _ => (pg_name (i := 2) sc_Ranking___and__.nd rfl (Or.inl rfl))) (fun _ _ _ _ _ => (pts_one (pt_cmpR op_in_seq (pv 2) (pe_prop (pv 1) T.o_Committee.cl T.q_Committee_members G_Committee_members.ok (hr.mono (by decide)) G_Committee_members.bn .nil passL rfl) rfl))) (fun _ _ _ _ _ => (pv 2))) pa_nil))))
theorem g_Ranking___and__ (T : Txt K mg A) : GMet PG w K mg base A.a_Ranking___and__ A.d_Ranking___and__ 5 ["self", "committee"] (MirF m_Ranking___and__) := ⟨ok_Ranking___and__ T, (T.F_Ranking___and__).binds fun _ _ _ _ _ _ us hl => match us, hl with | [_, _], _ => rfl⟩
theorem ok_is_number (T : Txt K mg A) : FnOk PG w K mg base (L2.CX PG w) 1 A.a_is_number A.d_is_number ["candidate", "least", "greatest"] (spF K (MirF m_is_number)) := by
  refine def_okM T.F_is_number sc_is_number (fun cdv A' outer s H E hr => ?_)
  refine ⟨_, ?p, fun k0 => (rm_ret (em_and (em_cb (ok_isi T.tab) (am_cons em_var (am_cons em_con am_nil))) (em_and (em_not (em_cb (ok_isi T.tab) (am_cons em_var (am_cons em_con am_nil)))) (em_chI (f := fun i j => decide (i ≤ j)) (g := fun i j => decide (i ≤ j)) em_var em_var em_var))))⟩
  exact (pss_one (ps_ret (pe_and (pe_callB call_isi (by rfl) T.b_isinstance (by decide +kernel) (pa_cons (pv 0) (pa_cons (pe_bltn (v := .ty "int") rfl T.b_int (by decide +kernel) rfl) pa_nil))) (pe_and (pe_not (pe_callB call_isi (by rfl) T.b_isinstance (by decide +kernel) (pa_cons (pv 0) (pa_cons (pe_bltn (v := .ty "bool") rfl T.b_bool (by decide +kernel) rfl) pa_nil)))) (pe_one (pe_chain op_le op_le (pv 1) (pv 0) (pv 2)))))))
theorem g_is_number (T : Txt K mg A) : GDef PG w K mg base "is_number" A.a_is_number A.d_is_number 1 ["candidate", "least", "greatest"] (MirF m_is_number) := ⟨ok_is_number T, T.gl_is_number, T.F_is_number.kp, (T.F_is_number).binds fun _ _ _ _ _ _ us hl => match us, hl with | [_, _, _], _ => rfl⟩
theorem ok_Ranking___getitem__ (T : Txt K mg A) : FnOk PG w K mg base (L2.CX PG w) 2 A.a_Ranking___getitem__ A.d_Ranking___getitem__ ["self", "place"] (spF K (MirF m_Ranking___getitem__)) := by
  have G_is_number := g_is_number (w := w) (base := base) T
  refine def_okM T.F_Ranking___getitem__ sc_Ranking___getitem__ (fun cdv A' outer s H E hr => ?_)
  refine ⟨_, ?p, fun k0 => (rm_seq (rm_if (tm_not (tm_b (em_call (am_cons em_var (am_cons em_con (am_cons (em_op ok_iP (em_cb ok_len (am_cons (em_fld T.cl_Ranking T.o_Ranking.cl T.n_Ranking_order em_var) am_nil)) em_con) am_nil)))))) (rm_raiseF T.cl_NoPlace (am_cons em_var am_nil)) rm_nil) (rm_ret (em_op ok_ixL (em_fld T.cl_Ranking T.o_Ranking.cl T.n_Ranking_order em_var) em_var)))⟩
  exact (pss_cons (ps_if (pt_not (pt_val (pe_callF G_is_number.ok (hr.mono (by decide)) rfl G_is_number.mgx G_is_number.kp G_is_number.bn tkD (pa_cons (pv 1) (pa_cons pe_int (pa_cons (pe_op op_sub (pe_callB call_lenA (by rfl) T.b_len (by decide +kernel) (pa_cons (pe_fld (pv 0) rfl) pa_nil)) pe_int) pa_nil)))))) (pss_one (ps_raiseR rfl tkD (pmk_sup PySem.F.excBase_LookupError PySem.W.kxs_LookupError PySem.F.store_LookupError SupX.okf_number T.sp_NoPlace T.g_NoPlace T.b_super T.k_NoPlace (raises_own T.s_NoPlace T.t_NoPlace) hr (pa_cons (pv 1) pa_nil) rfl))) pss_nil) (pss_one (ps_ret (pe_ix ix_list (pe_fld (pv 0) rfl) (pv 1) (fun _ _ => rfl)))))
theorem g_Ranking___getitem__ (T : Txt K mg A) : GMet PG w K mg base A.a_Ranking___getitem__ A.d_Ranking___getitem__ 2 ["self", "place"] (MirF m_Ranking___getitem__) := ⟨ok_Ranking___getitem__ T, (T.F_Ranking___getitem__).binds fun _ _ _ _ _ _ us hl => match us, hl with | [_, _], _ => rfl⟩
theorem ok_Ranking_worst (T : Txt K mg A) : FnOk PG w K mg base (L2.CX PG w) 6 A.a_Ranking_worst A.d_Ranking_worst ["self", "committee"] (spF K (MirF m_Ranking_worst)) := by
  have G_Ranking___and__ := g_Ranking___and__ (w := w) (base := base) T
  have G_Ranking___getitem__ := g_Ranking___getitem__ (w := w) (base := base) T
  have G_Ranking___len__ := g_Ranking___len__ (w := w) (base := base) T
  refine def_okM T.F_Ranking_worst sc_Ranking_worst (fun cdv A' outer s H E hr => ?_)
  refine ⟨_, ?p, fun k0 => (rm_seq (rm_asg (em_binO (op := .BitAnd) T.cl_Ranking T.bin_Ranking_Committee_BitAnd bini0 em_var em_var)) (rm_ret (em_if (tm_test (em_op ok_iP (em_lenO T.cl_Ranking (am_cons em_var am_nil)) em_con)) (em_ixO T.cl_Ranking em_var (em_op ok_iP (em_lenO T.cl_Ranking (am_cons em_var am_nil)) em_con)) em_con)))⟩
  exact (pss_cons (ps_set (i := 2) sc_Ranking_worst.nd rfl (Or.inl rfl) (pe_binO (pv 0) (pv 1) T.o_Ranking.sf T.p_Ranking___and__ G_Ranking___and__.ok (hr.mono (by decide)) G_Ranking___and__.bn tkD)) (pss_one (ps_ret (pe_ifExp (pt_cmpR op_gt (pe_callB (call_lenO T.p_Ranking___len__ G_Ranking___len__.ok (hr.mono (by decide)) G_Ranking___len__.bn) (by rfl) T.b_len (by decide +kernel) (pa_cons (pv 2) pa_nil)) pe_int (nomark _)) (pe_ixO (pv 2) (pe_op op_sub (pe_callB (call_lenO T.p_Ranking___len__ G_Ranking___len__.ok (hr.mono (by decide)) G_Ranking___len__.bn) (by rfl) T.b_len (by decide +kernel) (pa_cons (pv 2) pa_nil)) pe_int) T.p_Ranking___getitem__ T.fi_Ranking___getitem__ G_Ranking___getitem__.ok (hr.mono (by decide)) G_Ranking___getitem__.bn tkD (fun _ _ => by with_unfolding_all rfl)) pe_non))))
theorem g_Ranking_worst (T : Txt K mg A) : GMet PG w K mg base A.a_Ranking_worst A.d_Ranking_worst 6 ["self", "committee"] (MirF m_Ranking_worst) := ⟨ok_Ranking_worst T, (T.F_Ranking_worst).binds fun _ _ _ _ _ _ us hl => match us, hl with | [_, _], _ => rfl⟩
theorem ok_Game_ranking_of (T : Txt K mg A) : FnOk PG w K mg base (L2.CX PG w) 2 A.a_Game_ranking_of A.d_Game_ranking_of ["self", "player"] (spF K (MirF m_Game_ranking_of)) := by
  have G_is_name := g_is_name (w := w) (base := base) T
  refine def_okM T.F_Game_ranking_of sc_Game_ranking_of (fun cdv A' outer s H E hr => ?_)
  refine ⟨_, ?p, fun k0 => (rm_seq (rm_if (tm_or (tm_not (tm_b (em_call (am_cons em_var am_nil)))) (tm_b (em_dnin em_var (em_fld T.cl_Game T.o_Game.cl T.n_Game_own_rankings em_var)))) (rm_raiseF T.cl_UnknownName (am_cons em_var am_nil)) rm_nil) (rm_ret (em_dget (em_fld T.cl_Game T.o_Game.cl T.n_Game_own_rankings em_var) em_var)))⟩
  exact (pss_cons (ps_if (PW.pt (pw_or (pt_not (pt_val (pe_callF G_is_name.ok (hr.mono (by decide)) rfl G_is_name.mgx G_is_name.kp G_is_name.bn tkD (pa_cons (pv 1) pa_nil)))) (pw_or1 (pt_cmp (pc_dnotin (hu_of hr) (pv 1) (pe_fld (pv 0) rfl)))))) (pss_one (ps_raiseR rfl tkD (pmk_sup PySem.F.excBase_LookupError PySem.W.kxs_LookupError PySem.F.store_LookupError SupX.okf_name T.sp_UnknownName T.g_UnknownName T.b_super T.k_UnknownName (raises_own T.s_UnknownName T.t_UnknownName) hr (pa_cons (pv 1) pa_nil) rfl))) pss_nil) (pss_one (ps_ret (pe_dget (hu_of hr) (pe_fld (pv 0) rfl) (pv 1) (fun _ _ => rfl)))))
theorem g_Game_ranking_of (T : Txt K mg A) : GMet PG w K mg base A.a_Game_ranking_of A.d_Game_ranking_of 2 ["self", "player"] (MirF m_Game_ranking_of) := ⟨ok_Game_ranking_of T, (T.F_Game_ranking_of).binds fun _ _ _ _ _ _ us hl => match us, hl with | [_, _], _ => rfl⟩
theorem ok_backward_pass (T : Txt K mg A) : FnOk PG w K mg base (L2.CX PG w) 8 A.a_backward_pass A.d_backward_pass ["game"] (spF K (MirF m_backward_pass)) := by
  have G_Committee___init__ := g_Committee___init__ (w := w) (base := base) T
  have G_Committee___sub__ := g_Committee___sub__ (w := w) (base := base) T
  have G_Game_alternatives := g_Game_alternatives (w := w) (base := base) T
  have G_Game_ranking_of := g_Game_ranking_of (w := w) (base := base) T
  have G_Game_turns := g_Game_turns (w := w) (base := base) T
  have G_Ranking_worst := g_Ranking_worst (w := w) (base := base) T
  have G_Turns_players := g_Turns_players (w := w) (base := base) T
  refine def_okM T.F_backward_pass sc_backward_pass (fun cdv A' outer s H E hr => ?_)
  refine ⟨_, ?p, fun k0 => (rm_seq (rm_asgC (em_lst pm_nil)) (rm_seq (rm_asg (em_prop (E := E0) T.cl_Game em_var)) (rm_seq (rm_for (im_list (em_rev (em_prop (E := E0) T.cl_Turns (em_prop (E := E0) T.cl_Game em_var)))) gm_name (rm_seq (rm_asg (em_meth T.cl_Ranking (em_meth T.cl_Game em_var (am_cons em_var am_nil)) (am_cons em_var am_nil))) (rm_seq (rm_drop (em_mutL mt_app em_var (pm_cons (em_tup (pm_cons em_var (pm_cons em_var pm_nil))) pm_nil))) (rm_asg (em_binO (op := .Sub) T.cl_Committee bin0 bini0 em_var (em_make T.gn_Committee (am_cons (em_lst (pm_cons em_var pm_nil)) am_nil))))))) (rm_ret em_var))))⟩
  exact (pss_cons (ps_set (i := 1) sc_backward_pass.nd rfl (Or.inl rfl) (pe_lst pa_nil)) (pss_cons (ps_set (i := 2) sc_backward_pass.nd rfl (Or.inl rfl) (pe_prop (pv 0) T.o_Game.cl T.q_Game_alternatives G_Game_alternatives.ok (hr.mono (by decide)) G_Game_alternatives.bn .nil passL rfl)) (pss_cons (ps_for (passes_of rfl) rfl (pi_list (pe_revL (pe_prop (pe_prop (pv 0) T.o_Game.cl T.q_Game_turns G_Game_turns.ok (hr.mono (by decide)) G_Game_turns.bn .nil passL rfl) T.o_Turns.cl T.q_Turns_players G_Turns_players.ok (hr.mono (by decide)) G_Turns_players.bn .nil passL rfl))) (pg_name (i := 3) sc_backward_pass.nd rfl (Or.inl rfl)) (pss_cons (ps_set (i := 4) sc_backward_pass.nd rfl (Or.inl rfl) (pe_methS (pe_methS (pv 0) T.o_Game.cl T.h_Game_ranking_of G_Game_ranking_of.ok (hr.mono (by decide)) G_Game_ranking_of.bn tkD (pa_cons (pv 3) pa_nil)) T.o_Ranking.cl T.h_Ranking_worst G_Ranking_worst.ok (hr.mono (by decide)) G_Ranking_worst.bn tkD (pa_cons (pv 2) pa_nil))) (pss_cons (ps_expr (pe_bm PySem.F.plainAttrs_list PySem.F.slot_list_append PySem.F.type_list_append mt_append (pv 1) (pa_cons (pe_tup (pa_cons (pv 3) (pa_cons (pv 4) pa_nil))) pa_nil))) (pss_one (ps_set (i := 2) sc_backward_pass.nd rfl (Or.inl rfl) (pe_binO (pv 2) (pe_makeS T.m_Committee G_Committee___init__.ok (hr.mono (by decide)) rfl T.g_Committee G_Committee___init__.bn tkD (pa_cons (pe_lst (pa_cons (pv 4) pa_nil)) pa_nil)) T.o_Committee.sf T.p_Committee___sub__ G_Committee___sub__.ok (hr.mono (by decide)) G_Committee___sub__.bn tkD)))))) (pss_one (ps_ret (pv 1))))))
theorem g_backward_pass (T : Txt K mg A) : GDef PG w K mg base "backward_pass" A.a_backward_pass A.d_backward_pass 8 ["game"] (MirF m_backward_pass) := ⟨ok_backward_pass T, T.gl_backward_pass, T.F_backward_pass.kp, (T.F_backward_pass).binds fun _ _ _ _ _ _ us hl => match us, hl with | [_], _ => rfl⟩
theorem ok_outcome (T : Txt K mg A) : FnOk PG w K mg base (L2.CX PG w) 9 A.a_outcome A.d_outcome ["game"] (spF K (MirF m_outcome)) := by
  have G_Committee___init__ := g_Committee___init__ (w := w) (base := base) T
  have G_Committee___sub__ := g_Committee___sub__ (w := w) (base := base) T
  have G_Game_alternatives := g_Game_alternatives (w := w) (base := base) T
  have G_backward_pass := g_backward_pass (w := w) (base := base) T
  refine def_okM T.F_outcome sc_outcome (fun cdv A' outer s H E hr => ?_)
  refine ⟨_, ?p, fun k0 => (rm_ret (em_binO (op := .Sub) T.cl_Committee bin0 bini0 (em_prop (E := E0) T.cl_Game em_var) (em_make T.gn_Committee (am_cons (em_lc (W' := W0) (vs := [1, 2]) (im_list (em_call (am_cons em_var am_nil))) (gw_tup (gws_cons (by decide) (gws_cons (by decide) gws_nil)) rfl) tm_yes em_var) am_nil))))⟩
  exact (pss_one (ps_ret (pe_binO (pe_prop (pv 0) T.o_Game.cl T.q_Game_alternatives G_Game_alternatives.ok (hr.mono (by decide)) G_Game_alternatives.bn .nil passL rfl) (pe_makeS T.m_Committee G_Committee___init__.ok (hr.mono (by decide)) rfl T.g_Committee G_Committee___init__.bn tkD (pa_cons (pe_lc (own := [("player", 1), ("name", 2)]) (tt := tYes) rfl sc_outcome.nd (pi_list (pe_callF G_backward_pass.ok (hr.mono (by decide)) rfl G_backward_pass.mgx G_backward_pass.kp G_backward_pass.bn tkD (pa_cons (pv 0) pa_nil))) (blkOk_by (N := N_outcome) (sc := defScope s_outcome) (by decide +kernel)) (fun _ _ _ _ _ => (pg_tup rfl (pgs_cons (pg_name (i := 1) sc_outcome.nd rfl (Or.inl rfl)) (pgs_cons (pg_name (i := 2) sc_outcome.nd rfl (Or.inl rfl)) pgs_nil)))) (fun _ _ _ _ _ => pts_nil) (fun _ _ _ _ _ => (pv 2))) pa_nil)) T.o_Committee.sf T.p_Committee___sub__ G_Committee___sub__.ok (hr.mono (by decide)) G_Committee___sub__.bn tkD)))
theorem g_outcome (T : Txt K mg A) : GDef PG w K mg base "outcome" A.a_outcome A.d_outcome 9 ["game"] (MirF m_outcome) := ⟨ok_outcome T, T.gl_outcome, T.F_outcome.kp, (T.F_outcome).binds fun _ _ _ _ _ _ us hl => match us, hl with | [_], _ => rfl⟩
theorem ok_account (T : Txt K mg A) : FnOk PG w K mg base (L2.CX PG w) 9 A.a_account A.d_account ["game"] (spF K (MirF m_account)) := by
  have G_backward_pass := g_backward_pass (w := w) (base := base) T
  refine def_okM T.F_account sc_account (fun cdv A' outer s H E hr => ?_)
  refine ⟨_, ?p, fun k0 => (rm_seq (rm_asg (em_dc (W' := W0) (vs := [2, 3]) (im_list (em_call (am_cons em_var am_nil))) (gw_tup (gws_cons (by decide) (gws_cons (by decide) gws_nil)) rfl) tm_yes em_var em_var)) (rm_ret (em_dc (W' := W0) (vs := [3]) (im_list (em_cb ok_sortD (am_cons em_var am_nil))) (gw_name (by decide)) tm_yes em_var (em_dget em_var em_var))))⟩
  exact (pss_cons (ps_set (i := 1) sc_account.nd rfl (Or.inr rfl) (pe_dc (own := [("player", 2), ("name", 3)]) (tt := tYes) rfl sc_account.nd (pi_list (pe_callF G_backward_pass.ok (hr.mono (by decide)) rfl G_backward_pass.mgx G_backward_pass.kp G_backward_pass.bn tkD (pa_cons (pv 0) pa_nil))) (blkOk_by (N := N_account) (sc := defScope s_account) (by decide +kernel)) (fun _ _ _ _ _ => (pg_tup rfl (pgs_cons (pg_name (i := 2) sc_account.nd rfl (Or.inl rfl)) (pgs_cons (pg_name (i := 3) sc_account.nd rfl (Or.inl rfl)) pgs_nil)))) (fun _ _ _ _ _ => pts_nil) (fun _ _ _ _ _ => (pv 3)) (fun _ _ _ _ _ => (pv 2)))) (pss_one (ps_ret (pe_dc (own := [("name", 3)]) (tt := tYes) rfl sc_account.nd (pi_list (pe_callB (call_sortedD' rfl) (by rfl) T.b_sorted (by decide +kernel) (pa_cons (pv 1) pa_nil))) (blkOk_by (N := N_account) (sc := defScope s_account) (by decide +kernel)) (fun _ _ _ _ _ => (pg_name (i := 3) sc_account.nd rfl (Or.inl rfl))) (fun _ _ _ _ _ => pts_nil) (fun _ _ _ _ _ => (pv 3)) (fun _ _ _ _ _ => (pe_dget (hu_of hr) (pv 1) (pv 3) (fun _ _ => rfl)))))))
theorem g_account (T : Txt K mg A) : GDef PG w K mg base "account" A.a_account A.d_account 9 ["game"] (MirF m_account) := ⟨ok_account T, T.gl_account, T.F_account.kp, (T.F_account).binds fun _ _ _ _ _ _ us hl => match us, hl with | [_], _ => rfl⟩
theorem ok__law_raised (T : Txt K mg A) : FnOk PG w K mg base (L2.CX PG w) 2 A.a__law_raised A.d__law_raised ["_law_stream_here", "_law_order", "_law_name"] (spF K (MirF m__law_raised)) := by
  have G__law_draw := g__law_draw (w := w) (base := base) T
  refine def_okM T.F__law_raised sc__law_raised (fun cdv A' outer s H E hr => ?_)
  refine ⟨_, ?p, fun k0 => (rm_seq (rm_asg (em_call (am_cons em_var (am_cons (em_op ok_iP (em_bmR mt_idx em_var (am_cons em_var am_nil)) em_con) am_nil)))) (rm_seq (rm_asg (em_lc (W' := W0) (vs := [5]) (im_list em_var) (gw_name (by decide)) (tm_test (em_op ok_ne em_var em_var)) em_var)) (rm_ret (em_op ok_cat (em_op ok_cat (em_sl em_var om_none (om_part em_var)) (em_lst (pm_cons em_var pm_nil))) (em_sl em_var (om_part em_var) om_none)))))⟩
  exact (pss_cons (ps_set (i := 3) sc__law_raised.nd rfl (Or.inl rfl) (pe_callF G__law_draw.ok (hr.mono (by decide)) rfl G__law_draw.mgx G__law_draw.kp G__law_draw.bn tkD (pa_cons (pv 0) (pa_cons (pe_op op_add (pe_bm PySem.F.plainAttrs_list PySem.F.slot_list_index PySem.F.type_list_index mt_index (pv 1) (pa_cons (pv 2) pa_nil)) pe_int) pa_nil)))) (pss_cons (ps_setLc (i := 4) (own := [("_law_other", 5)]) rfl sc__law_raised.nd rfl rfl (sw_true rfl rfl rfl (by decide +kernel)) (pi_list (pv 1)) (blkOk_by (N := N__law_raised) (sc := defScope s__law_raised) (by decide +kernel)) (fun _ _ _ _ _ => (pg_name (i := 5) sc__law_raised.nd rfl (Or.inl rfl))) (fun _ _ _ _ _ => (pts_one (pt_cmpR (op_neD (Mr.hu64 hr)) (pv 5) (pv 2) (nomark _)))) (fun _ _ _ _ _ => (pv 5))) (pss_one (ps_ret (pe_op op_cat (pe_op op_cat (pe_slice sl_list (pv 4) po_none (po_some (pv 3))) (pe_lst (pa_cons (pv 2) pa_nil))) (pe_slice sl_list (pv 4) (po_some (pv 3)) po_none))))))
theorem g__law_raised (T : Txt K mg A) : GDef PG w K mg base "_law_raised" A.a__law_raised A.d__law_raised 2 ["_law_stream_here", "_law_order", "_law_name"] (MirF m__law_raised) := ⟨ok__law_raised T, T.gl__law_raised, T.F__law_raised.kp, (T.F__law_raised).binds fun _ _ _ _ _ _ us hl => match us, hl with | [_, _, _], _ => rfl⟩
theorem ok_law (T : Txt K mg A) : FnOk PG w K mg base (L2.CX PG w) 10 A.a_law A.d_law ["_law_script"] (spF K (MirF m_law)) := by
  have G_Committee___eq__ := g_Committee___eq__ (w := w) (base := base) T
  have G_Committee_members := g_Committee_members (w := w) (base := base) T
  have G__law_drawn := g__law_drawn (w := w) (base := base) T
  have G__law_made := g__law_made (w := w) (base := base) T
  have G__law_raised := g__law_raised (w := w) (base := base) T
  have G__law_stream := g__law_stream (w := w) (base := base) T
  have G_account := g_account (w := w) (base := base) T
  have G_outcome := g_outcome (w := w) (base := base) T
  refine def_okM T.F_law sc_law (fun cdv A' outer s H E hr => ?_)
  refine ⟨_, ?p, fun k0 => (rm_seq (rm_for (im_rng1 (pm_cons (em_cb ok_max2 (am_cons em_con (am_cons (em_cb ok_min2 (am_cons em_con (am_cons (em_cb ok_len (am_cons em_var am_nil)) am_nil))) am_nil))) pm_nil)) gm_name (rm_seq (rm_asgC (em_call (am_cons em_var (am_cons em_var am_nil)))) (rm_for (im_rng1 (pm_cons em_con pm_nil)) gm_name (rm_seq (rm_asg (em_call (am_cons em_var (am_cons em_con (am_cons em_con am_nil))))) (rm_seq (rm_asg (em_call (am_cons em_var am_nil))) (rm_seq (rm_parX (am_cons (em_call (am_cons em_var am_nil)) (am_cons (em_call (am_cons em_var am_nil)) am_nil))) (rm_for (im_list (em_prop (E := E0) T.cl_Committee em_var)) gm_name (rm_seq (rm_asgC em_dnew) (rm_seq (rm_for (im_keys (em_op ok_ixL em_var em_con)) gm_name (rm_seq (rm_asgC (em_cb ok_dictD (am_cons (em_op ok_ixL em_var em_con) am_nil))) (rm_seq (rm_setD (em_call (am_cons em_var (am_cons (em_dget (em_op ok_ixL em_var em_con) em_var) (am_cons em_var am_nil)))) em_var em_var) (rm_seq (rm_setD (em_dget em_var em_var) em_var em_var) (rm_seq (rm_asg (em_call (am_cons (em_lst (pm_cons em_var (pm_cons (em_op ok_ixL em_var em_con) pm_nil))) am_nil))) (rm_if (tm_or (tm_test (em_neO T.tab T.cl_Committee (em_call (am_cons em_var am_nil)) em_var)) (tm_test (em_op ok_eqK (em_call (am_cons em_var am_nil)) em_var))) (rm_ret em_con) rm_nil)))))) (rm_seq (rm_asg (em_call (am_cons (em_lst (pm_cons em_var (pm_cons (em_op ok_ixL em_var em_con) pm_nil))) am_nil))) (rm_if (tm_or (tm_test (em_neO T.tab T.cl_Committee (em_call (am_cons em_var am_nil)) em_var)) (tm_test (em_op ok_eqK (em_call (am_cons em_var am_nil)) em_var))) (rm_ret em_con) rm_nil))))))))))) (rm_ret em_con))⟩
  exact (pss_cons (ps_for (passes_of rfl) rfl (pi_range1 rfl T.b_range (pa_cons (pe_callB (call_max2' rfl) (by rfl) T.b_max (by decide +kernel) (pa_cons pe_int (pa_cons (pe_callB (call_min2' rfl) (by rfl) T.b_min (by decide +kernel) (pa_cons pe_int (pa_cons (pe_callB call_lenA (by rfl) T.b_len (by decide +kernel) (pa_cons (pv 0) pa_nil)) pa_nil))) pa_nil))) pa_nil)) (pg_name (i := 1) sc_law.nd rfl (Or.inl rfl)) (pss_cons (ps_set (i := 2) sc_law.nd rfl (Or.inl rfl) (pe_callF G__law_stream.ok (hr.mono (by decide)) rfl G__law_stream.mgx G__law_stream.kp G__law_stream.bn tkD (pa_cons (pv 0) (pa_cons (pv 1) pa_nil)))) (pss_one (ps_for (passes_of rfl) rfl (pi_range1 rfl T.b_range (pa_cons pe_int pa_nil)) (pg_name (i := 3) sc_law.nd rfl (Or.inl rfl)) (pss_cons (ps_set (i := 4) sc_law.nd rfl (Or.inl rfl) (pe_callF G__law_drawn.ok (hr.mono (by decide)) rfl G__law_drawn.mgx G__law_drawn.kp G__law_drawn.bn tkD (pa_cons (pv 2) (pa_cons pe_int (pa_cons pe_int pa_nil))))) (pss_cons (ps_set (i := 5) sc_law.nd rfl (Or.inl rfl) (pe_callF G__law_made.ok (hr.mono (by decide)) rfl G__law_made.mgx G__law_made.kp G__law_made.bn tkD (pa_cons (pv 4) pa_nil))) (pss_cons (ps_par (i := 6) (j := 7) rfl sc_law.nd rfl rfl (by decide) rfl rfl (pa_cons (pe_callF G_outcome.ok (hr.mono (by decide)) rfl G_outcome.mgx G_outcome.kp G_outcome.bn tkD (pa_cons (pv 5) pa_nil)) (pa_cons (pe_callF G_account.ok (hr.mono (by decide)) rfl G_account.mgx G_account.kp G_account.bn tkD (pa_cons (pv 5) pa_nil)) pa_nil)) rfl) (pss_one (ps_for (passes_of rfl) rfl (pi_list (pe_prop (pv 6) T.o_Committee.cl T.q_Committee_members G_Committee_members.ok (hr.mono (by decide)) G_Committee_members.bn .nil passL rfl)) (pg_name (i := 8) sc_law.nd rfl (Or.inl rfl)) (pss_cons (ps_set (i := 9) sc_law.nd rfl (Or.inl rfl) pe_dnewK) (pss_cons (ps_for (passes_of rfl) rfl (pi_keys (pe_lk (pe_ix ix_list (pv 4) pe_int (fun _ _ => rfl)))) (pg_name (i := 10) sc_law.nd rfl (Or.inl rfl)) (pss_cons (ps_set (i := 11) sc_law.nd rfl (Or.inl rfl) (pe_callTy call_dictDk (by rfl) T.b_dict (by decide +kernel) (pa_cons (pe_ix ix_list (pv 4) pe_int (fun _ _ => rfl)) pa_nil))) (pss_cons (ps_dput (hu_of hr) (pv 11) (pv 10) (pe_callF G__law_raised.ok (hr.mono (by decide)) rfl G__law_raised.mgx G__law_raised.kp G__law_raised.bn tkD (pa_cons (pv 2) (pa_cons (pe_dget (hu_of hr) (pe_ix ix_list (pv 4) pe_int (fun _ _ => rfl)) (pv 10) (fun _ _ => rfl)) (pa_cons (pv 8) pa_nil)))) rfl) (pss_cons (ps_dput (hu_of hr) (pv 9) (pv 10) (pe_dget (hu_of hr) (pv 11) (pv 10) (fun _ _ => rfl)) rfl) (pss_cons (ps_set (i := 12) sc_law.nd rfl (Or.inl rfl) (pe_callF G__law_made.ok (hr.mono (by decide)) rfl G__law_made.mgx G__law_made.kp G__law_made.bn tkD (pa_cons (pe_lst (pa_cons (pv 11) (pa_cons (pe_ix ix_list (pv 4) pe_int (fun _ _ => rfl)) pa_nil))) pa_nil))) (pss_one (ps_if (PW.pt (pw_or (pt_cmpR (op_neO T.p_Committee___eq__ T.ne_Committee T.o_Committee.hm G_Committee___eq__.ok (hr.mono (by decide)) G_Committee___eq__.bn) (pe_callF G_outcome.ok (hr.mono (by decide)) rfl G_outcome.mgx G_outcome.kp G_outcome.bn tkD (pa_cons (pv 12) pa_nil)) (pv 6) (nomark _)) (pw_or1 (pt_cmpR (op_neK (Mr.hu65 hr)) (pe_callF G_account.ok (hr.mono (by decide)) rfl G_account.mgx G_account.kp G_account.bn tkD (pa_cons (pv 12) pa_nil)) (pv 7) (nomark _))))) (pss_one (ps_ret pe_bl)) pss_nil))))))) (pss_cons (ps_set (i := 12) sc_law.nd rfl (Or.inl rfl) (pe_callF G__law_made.ok (hr.mono (by decide)) rfl G__law_made.mgx G__law_made.kp G__law_made.bn tkD (pa_cons (pe_lst (pa_cons (pv 9) (pa_cons (pe_ix ix_list (pv 4) pe_int (fun _ _ => rfl)) pa_nil))) pa_nil))) (pss_one (ps_if (PW.pt (pw_or (pt_cmpR (op_neO T.p_Committee___eq__ T.ne_Committee T.o_Committee.hm G_Committee___eq__.ok (hr.mono (by decide)) G_Committee___eq__.bn) (pe_callF G_outcome.ok (hr.mono (by decide)) rfl G_outcome.mgx G_outcome.kp G_outcome.bn tkD (pa_cons (pv 12) pa_nil)) (pv 6) (nomark _)) (pw_or1 (pt_cmpR (op_neK (Mr.hu65 hr)) (pe_callF G_account.ok (hr.mono (by decide)) rfl G_account.mgx G_account.kp G_account.bn tkD (pa_cons (pv 12) pa_nil)) (pv 7) (nomark _))))) (pss_one (ps_ret pe_bl)) pss_nil)))))))))))))) (pss_one (ps_ret pe_bl)))
theorem g_law (T : Txt K mg A) : GDef PG w K mg base "law" A.a_law A.d_law 10 ["_law_script"] (MirF m_law) := ⟨ok_law T, T.gl_law, T.F_law.kp, (T.F_law).binds fun _ _ _ _ _ _ us hl => match us, hl with | [_], _ => rfl⟩
end Toy
end

section
set_option maxRecDepth 100000
set_option maxHeartbeats 4000000
namespace Toy
open PySem L2 Dm Mr
/-! ### the draws -/
theorem stream_ok {ns : List Int} {k : Int} (h0 : 0 ≤ k) (h1 : k ≤ 100000) : StrN (m__law_stream [.p (.scr ns), .p (dI k)] []) := by
  have end_ : ∀ y z : Int, 0 ≤ y → StrN (.new (.lst [dI (y * if 1000000000000000000 ≤ y then 1 else 0), dI (z % 2147483647)]) []) := by
    intro y z hy
    refine ⟨_, _, rfl, ?_, by omega, by omega⟩
    split <;> omega
  unfold m__law_stream
  by_cases hk : k < ns.length
  · obtain ⟨x, hx, _⟩ := atI_some h0 hk
    simp (disch := omega) [hk, pIxL_s hx, pMod_i, pMul_r, pMul_l]
    exact end_ _ _ (by omega)
  · simp (disch := omega) [hk, pMod_i, pMul_r, pMul_l]
    exact end_ _ _ (by omega)
theorem draw_ok {a b n : Int} (ha : 0 ≤ a) (hb : 0 ≤ b) (hb2 : b < 2147483647) (h0 : 0 < n) (h1 : n ≤ 100000) : DrawN n (m__law_draw [.r 0, .p (dI n)] [.lst [dI a, dI b]]) := by
  unfold m__law_draw
  by_cases hk : 0 < a
  · simp (disch := omega) [hk, pMod_i, pDiv_i, pMul_r, pMul_l]
    exact ⟨_, _, _, rfl, Int.emod_nonneg _ (by omega), Int.emod_lt_of_pos _ h0, Int.ediv_nonneg (by omega) (by omega), hb, hb2⟩
  · simp (disch := omega) [hk, pMod_i, pDiv_i, pMul_r, pMul_l]
    exact ⟨_, _, _, rfl, Int.emod_nonneg _ (by omega), Int.emod_lt_of_pos _ h0, ha, Int.emod_nonneg _ (by omega), Int.emod_lt_of_pos _ (by omega)⟩
theorem call_draw {S : Store} {i : Nat} {n : Int} (h : Strm S i) (h0 : 0 < n) (h1 : n ≤ 100000) : ∃ q a b : Int, callD m__law_draw [.r i, .p (dI n)] S = .v (.p (dI q)) (S.set i (.lst [dI a, dI b])) ∧ 0 ≤ q ∧ q < n ∧ Strm (S.set i (.lst [dI a, dI b])) i := by
  have h' := h
  obtain ⟨a, b, hS, ha, hb, hb2⟩ := h
  obtain ⟨q, a', b', e, h2, h3, h4, h5, h6⟩ := draw_ok ha hb hb2 h0 h1
  exact ⟨q, a', b', by rw [callD_rp hS rfl, e, back1_ret rfl], h2, h3, h'.put h4 h5 h6⟩
/-! ### names -/
def NmsX (n : Nat) (r : DR) : Prop := ∃ (q s t a b : Int), r = .new (.lst (((List.range n).map (nm q s t)).map dS)) [.lst [dI a, dI b]] ∧ s ∈ [(1 : Int), 3, 5, 7, 9, 11, 15, 25] ∧ 0 ≤ t ∧ t < 7 ∧ 0 ≤ a ∧ 0 ≤ b ∧ b < 2147483647
theorem names_x {a b : Int} {n : Nat} (ha : 0 ≤ a) (hb : 0 ≤ b) (hb2 : b < 2147483647) (h1 : n ≤ 52) : NmsX n (m__law_names [.r 0, .p (dI n)] [.lst [dI a, dI b]]) := by
  have s0 : Strm [.lst [dI a, dI b]] 0 := ⟨a, b, rfl, ha, hb, hb2⟩
  obtain ⟨q1, a1, b1, e1, h11, h12, s1⟩ := call_draw s0 (n := 26) (by decide) (by decide)
  obtain ⟨q2, a2, b2, e2, h21, h22, s2⟩ := call_draw s1 (n := 8) (by decide) (by decide)
  obtain ⟨q3, a3, b3, e3, h31, h32, s3⟩ := call_draw s2 (n := 7) (by decide) (by decide)
  simp only [List.set_cons_zero] at e1 e2 e3 s3
  obtain ⟨_, _, z, h41, h42, h43⟩ := s3
  cases z
  obtain ⟨x, hx, hm⟩ := atI_some (xs := [dI 1, dI 3, dI 5, dI 7, dI 9, dI 11, dI 15, dI 25]) h21 h22
  obtain ⟨s, rfl, hs⟩ : ∃ s : Int, x = dI s ∧ s ∈ [(1 : Int), 3, 5, 7, 9, 11, 15, 25] := by
    have : x ∈ [(1 : Int), 3, 5, 7, 9, 11, 15, 25].map dI := hm
    obtain ⟨s, h, rfl⟩ := List.mem_map.1 this
    exact ⟨s, rfl, h⟩
  have hs2 : s.natAbs < 2 ^ 64 := by
    simp only [List.mem_cons, List.not_mem_nil, or_false] at hs
    omega
  unfold m__law_names
  simp (disch := omega) [e1, e2, e3, pIxL_at hx, pMod_i, pDiv_i, pMul_r, pMul_l, fRng1_int]
  rw [lcK_ok (by simp [rgD]; omega)]
  rw [show rgD 0 n = (List.range n).map (fun i : Nat => dI (0 + (i : Int))) from rfl, lcL_map (f := fun i : Nat => dS (nm q1 s q3 i)) (fun i hi => rfl) ?_]
  · refine ⟨q1, s, q3, a3, b3, ?_, hs, h31, h32, h41, h42, h43⟩
    simp
  · intro i hi
    rw [List.mem_range] at hi
    have hb := nm_b (i := i) h31 h32
    have hj0 : 0 ≤ (q1 + s * (i : Int)) % 26 := Int.emod_nonneg _ (by decide)
    have hj1 : (q1 + s * (i : Int)) % 26 < 26 := Int.emod_lt_of_pos _ (by decide)
    have hp : pIxS [dS LET, dI ((q1 + s * (i : Int)) % 26)] = .d (dS ⟨#[97 + ((q1 + s * (i : Int)) % 26).toNat]⟩) := pIxS_at (by decide) (let_at hj0 hj1)
    have hm1 : pMulS [dS ⟨#[97 + ((q1 + s * (i : Int)) % 26).toNat]⟩, dI (1 + q3 * ((i : Int) % 2))] = .d (dS ⟨(List.replicate (1 + q3 * ((i : Int) % 2)).toNat (97 + ((q1 + s * (i : Int)) % 26).toNat)).toArray⟩) := by
      have h1 : (⟨#[97 + ((q1 + s * (i : Int)) % 26).toNat]⟩ : Str).length ≤ 1000 := by
        show 1 ≤ 1000
        decide
      rw [pMulS_i (by omega) (by omega) h1, mul_eq (by omega)]
    have hm2 : pMulS [dS "q", dI ((i : Int) / 26)] = .d (dS ⟨(sfx i).toArray⟩) := by
      unfold sfx
      by_cases h26 : i < 26
      · rw [if_pos h26, show (i : Int) / 26 = 0 by omega]
        exact pMulS_i (by decide) (by decide) (by decide)
      · rw [if_neg h26, show (i : Int) / 26 = 1 by omega, pMulS_i (by decide) (by decide) (by decide)]
        rfl
    have hm3 : pAddS [dS ⟨(List.replicate (1 + q3 * ((i : Int) % 2)).toNat (97 + ((q1 + s * (i : Int)) % 26).toNat)).toArray⟩, dS ⟨(sfx i).toArray⟩] = .d (dS (nm q1 s q3 i)) := by
      have h1 : (⟨(List.replicate (1 + q3 * ((i : Int) % 2)).toNat (97 + ((q1 + s * (i : Int)) % 26).toNat)).toArray⟩ : Str).length ≤ 10 := by
        show (List.replicate _ _).toArray.size ≤ 10
        rw [List.size_toArray, List.length_replicate]
        omega
      have h2 : (⟨(sfx i).toArray⟩ : Str).length ≤ 10 := by
        show (sfx i).toArray.size ≤ 10
        rw [List.size_toArray, sfx_len (by omega)]
        omega
      rw [pAddS_z (by omega)]
      congr 2
      apply Dm.Str.ext'
      show ((List.replicate _ _).toArray ++ (sfx i).toArray).toList = (List.replicate _ _ ++ sfx i).toArray.toList
      simp
    generalize (⟨(List.replicate (1 + q3 * ((i : Int) % 2)).toNat (97 + ((q1 + s * (i : Int)) % 26).toNat)).toArray⟩ : Str) = z1 at hm1 hm3
    generalize (⟨(sfx i).toArray⟩ : Str) = z2 at hm2 hm3
    simp (disch := omega) [hp, pMod_i, pDiv_i, pMul_r, pMul_l, hm1, hm2, hm3]
theorem names_ok {a b : Int} {n : Nat} (ha : 0 ≤ a) (hb : 0 ≤ b) (hb2 : b < 2147483647) (h1 : n ≤ 52) : NmsN n (m__law_names [.r 0, .p (dI n)] [.lst [dI a, dI b]]) := by
  obtain ⟨q, s, t, a', b', e, hs, h31, h32, h4⟩ := names_x ha hb hb2 h1
  refine ⟨_, a', b', e, by simp, nm_nodup hs h31 h32 h1, fun m hm => ?_, h4⟩
  obtain ⟨i, hi, rfl⟩ := List.mem_map.1 hm
  rw [List.mem_range] at hi
  exact nm_is h31 h32 (by omega)
theorem call_stream {S : Store} {ns : List Int} {k : Int} (h0 : 0 ≤ k) (h1 : k ≤ 100000) : ∃ a b : Int, callD m__law_stream [.p (.scr ns), .p (dI k)] S = .n (.lst [dI a, dI b]) S ∧ 0 ≤ a ∧ 0 ≤ b ∧ b < 2147483647 := by
  obtain ⟨a, b, e, h⟩ := stream_ok (ns := ns) h0 h1
  exact ⟨a, b, by rw [callD_2, e, backD_lst], h⟩
theorem call_names {S : Store} {i n : Nat} (h : Strm S i) (h1 : n ≤ 52) : ∃ (ms : List Str) (a b : Int), callD m__law_names [.r i, .p (dI n)] S = .n (.lst (ms.map dS)) (S.set i (.lst [dI a, dI b])) ∧ ms.length = n ∧ ms.Nodup ∧ (∀ m ∈ ms, isNm m = true) ∧ Strm (S.set i (.lst [dI a, dI b])) i := by
  have h' := h
  obtain ⟨a, b, hS, ha, hb, hb2⟩ := h
  obtain ⟨ms, a', b', e, h2, h3, h4, h5, h6, h7⟩ := names_ok ha hb hb2 h1
  exact ⟨ms, a', b', by rw [callD_rp hS rfl, e, back1_lst rfl], h2, h3, h4, h'.put h5 h6 h7⟩
theorem call_namesX {S : Store} {i n : Nat} (h : Strm S i) (h1 : n ≤ 52) : ∃ q s t a b : Int, callD m__law_names [.r i, .p (dI n)] S = .n (.lst (((List.range n).map (nm q s t)).map dS)) (S.set i (.lst [dI a, dI b])) ∧ s ∈ [(1 : Int), 3, 5, 7, 9, 11, 15, 25] ∧ 0 ≤ t ∧ t < 7 ∧ Strm (S.set i (.lst [dI a, dI b])) i := by
  have h' := h
  obtain ⟨a, b, hS, ha, hb, hb2⟩ := h
  obtain ⟨q, s, t, a', b', e, h2, h3, h4, h5, h6, h7⟩ := names_x ha hb hb2 h1
  exact ⟨q, s, t, a', b', by rw [callD_rp hS rfl, e, back1_lst rfl], h2, h3, h4, h'.put h5 h6 h7⟩
theorem choose_ok {a b : Int} {ds : List Dat} (ha : 0 ≤ a) (hb : 0 ≤ b) (hb2 : b < 2147483647) (h0 : ds ≠ []) (h1 : ds.length ≤ 100000) : ChN ds (m__law_choose [.r 0, .p (.lst ds)] [.lst [dI a, dI b]]) := by
  have s0 : Strm [.lst [dI a, dI b]] 0 := ⟨a, b, rfl, ha, hb, hb2⟩
  have hl := List.length_pos_iff.2 h0
  obtain ⟨q, a1, b1, e1, h11, h12, s1⟩ := call_draw s0 (n := ds.length) (by omega) (by omega)
  simp only [List.set_cons_zero] at e1 s1
  obtain ⟨x, hx, hm⟩ := atI_some h11 h12
  obtain ⟨_, _, z, h41, h42, h43⟩ := s1
  cases z
  unfold m__law_choose
  simp [e1, pIxL_at hx]
  exact ⟨x, a1, b1, rfl, hm, h41, h42, h43⟩
theorem call_choose {S : Store} {i : Nat} {ds : List Dat} (h : Strm S i) (h0 : ds ≠ []) (h1 : ds.length ≤ 100000) : ∃ (d : Dat) (a b : Int), callD m__law_choose [.r i, .p (.lst ds)] S = .v (.p d) (S.set i (.lst [dI a, dI b])) ∧ d ∈ ds ∧ Strm (S.set i (.lst [dI a, dI b])) i := by
  have h' := h
  obtain ⟨a, b, hS, ha, hb, hb2⟩ := h
  obtain ⟨d, a', b', e, h2, h3, h4, h5⟩ := choose_ok ha hb hb2 h0 h1
  exact ⟨d, a', b', by rw [callD_rp hS rfl, e, back1_ret rfl], h2, h'.put h3 h4 h5⟩


/-! ### committees -/
theorem distinct_ok {S : Store} {ms : List Str} (h : ms.length ≤ 100000) (h2 : (dd ms).length < 64) : callD m_distinct [.p (dLs ms)] S = .n (.lst ((dist ms).map dS)) S := by
  rw [callD_1]
  unfold m_distinct
  simp
  rw [dcK_ok (by simpa using h), dcL_map (xs := ms) (R := dS) (k := Sum.inr) (kd := dS) (f := fun _ => dB true) (fun x _ => rfl) (fun x _ => by simp) (fun x _ => rfl) (fun x _ => by simp)]
  have := mkD_strs (f := fun _ => dB true) ms
  simp [pSortD_s this h2]
  rfl
theorem is_name_ok {S : Store} {z : Str} (h : z.length ≤ 100000) : callD m_is_name [.p (dS z)] S = .v (.p (dB (isNm z))) S := by
  rw [callD_1]
  unfold m_is_name
  have hl : (sgD z).length ≤ 100000 := by
    unfold sgD
    rw [List.length_map]
    exact h
  by_cases h1 : (1 : Int) ≤ (z.length : Nat)
  · by_cases h2 : ((z.length : Nat) : Int) ≤ 8
    · simp [pLen_z h, h1, h2, lcK_ok hl]
      rw [show sgD z = z.cps.toList.map fun c => dS ⟨#[c]⟩ from rfl, lcL_map (f := fun c => dB (decide (c ∈ LET.cps.toList))) (fun c _ => rfl) (fun c _ => by simp [pInS_c])]
      simp [pAll_f]
      unfold isNm
      rw [decide_eq_true (show 1 ≤ z.length by omega), decide_eq_true (show z.length ≤ 8 by omega)]
      simp
    · simp [pLen_z h, h1, h2, lcK_ok hl]
      unfold isNm
      rw [decide_eq_false (show ¬ z.length ≤ 8 by omega)]
      simp
  · simp [pLen_z h, h1, lcK_ok hl]
    unfold isNm
    rw [decide_eq_false (show ¬ 1 ≤ z.length by omega)]
    simp
theorem are_names_ok {S : Store} {ms : List Str} (h : Nms ms) (hl : ms.length ≤ 100000) : callD m_are_names [.p (dLs ms)] S = .v (.p (dB true)) S := by
  rw [callD_1]
  unfold m_are_names
  simp
  rw [lcK_ok (by simpa using hl), lcL_map (f := fun m => dB true) (fun c _ => rfl) (fun c hc => by
    have h1 := isNm_len (h c hc)
    simp
    rw [is_name_ok (by omega), h c hc]
    rfl)]
  simp [pAll_f]
theorem init_ok {S : Store} {ms : List Str} (h : Nms ms) (hl : ms.length ≤ 100000) (h2 : (dd ms).length ≤ 30) : makeD "Committee" m_Committee___init__ [.p (dLs ms)] S = .n (ComC (dist ms)) S := by
  rw [makeD_1]
  unfold m_Committee___init__
  have h3 := are_names_ok (S := [.ins "Committee" []]) h hl
  have h4 := distinct_ok (S := [.ins "Committee" []]) hl (by omega)
  have h5 : ¬ ((30 : Int) < (((dist ms).length : Nat) : Int)) := by rw [dist_len]; omega
  simp [h3, h4, h5, fldSF_ins]
theorem init_many {S : Store} {ms : List Str} (h : Nms ms) (hl : ms.length ≤ 100000) (h2 : 30 < (dd ms).length) (h6 : (dd ms).length < 64) : makeD "Committee" m_Committee___init__ [.p (dLs ms)] S = .ex ⟨"InvalidCommittee", none⟩ S := by
  rw [makeD_1]
  unfold m_Committee___init__
  have h3 := are_names_ok (S := [.ins "Committee" []]) h hl
  have h4 := distinct_ok (S := [.ins "Committee" []]) hl (by omega)
  have h5 : ((30 : Int) < (((dist ms).length : Nat) : Int)) := by rw [dist_len]; omega
  simp [h3, h4, h5, fldSF_ins]
theorem members_ok {S : Store} {ms : List Str} : callD m_Committee_members [.p (Com ms)] S = .n (.lst (ms.map dS)) S := by
  rw [callD_1]
  unfold m_Committee_members
  simp
theorem sub_ok {S : Store} {xs ys : List Str} (h : Nms xs) (hl : xs.length ≤ 30) : callD m_Committee___sub__ [.p (Com xs), .p (Com ys)] S = .n (ComC (dist (xs.filter fun x => !decide (x ∈ ys)))) S := by
  rw [callD_2]
  unfold m_Committee___sub__
  have := List.length_filter_le (fun x => !decide (x ∈ ys)) xs
  have := dd_len (xs.filter fun x => !decide (x ∈ ys))
  simp [lcK_ok (show (xs.map dS).length ≤ 100000 by rw [List.length_map]; omega)]
  rw [lc_filter (p := fun x => !decide (x ∈ ys)) (fun x _ => by simp) (fun x _ => by simp)]
  have h4 := init_ok (S := []) (filter_nms (p := fun x => !decide (x ∈ ys)) h) (by omega) (by omega)
  simp [h4]
theorem eq_ok {S : Store} {xs ys : List Str} (h : Nms xs) (h' : Nms ys) : callD m_Committee___eq__ [.p (Com xs), .p (Com ys)] S = .v (.p (dB (decide (xs = ys)))) S := by
  rw [callD_2]
  unfold m_Committee___eq__
  simp [pIsi_com, pEq_ls h.ok h'.ok]
theorem eq_lst {S : Store} {xs : List Str} {ds : List Dat} : callD m_Committee___eq__ [.p (Com xs), .p (.lst ds)] S = .v (.p (dB false)) S := by
  rw [callD_2]
  unfold m_Committee___eq__
  simp [show pIsi [.lst ds, .glb "Committee"] = .d (dB false) from rfl]
/-! ### rankings -/
theorem rk_init {S : Store} {xs : List Str} (h : RkOk xs) : makeD "Ranking" m_Ranking___init__ [.p (dLs xs)] S = .n (RkC xs) S := by
  have hl := h.le
  rw [makeD_1]
  unfold m_Ranking___init__
  have h3 := fun S => are_names_ok (S := S) h.nm (by omega)
  have h4 := fun S => distinct_ok (S := S) (show xs.length ≤ 100000 by omega) (by have := dd_len xs; omega)
  have h5 : ¬ ((30 : Int) < ((xs.length : Nat) : Int)) := by omega
  have h6 := dist_nd_len h.nd
  simp [h3, h4, h5, h6, fldSF_ins, fldV]
  rw [dcK_ok (by rw [enD_map]; simp; omega), enD_map, dcL_map (R := fun i : Nat => Dat.tup [dI i, dS (xs.getD i Str.empty)]) (k := fun i : Nat => Sum.inr (xs.getD i Str.empty)) (kd := fun i : Nat => dS (xs.getD i Str.empty)) (f := fun i : Nat => dI i) (fun i _ => rfl) (fun i _ => by simp) (fun i _ => rfl) (fun i _ => by simp)]
  have h7 : mkD ((List.range xs.length).map fun i : Nat => (Sum.inr (xs.getD i Str.empty), dI i)) = PL xs := mkD_nodup (by
    show ((PL xs).map (·.1)).Nodup
    rw [PL_keys]
    exact List.Pairwise.map _ (fun a b h e => h (by cases e; rfl)) h.nd)
  simp only [List.getD_eq_getElem?_getD] at h7
  simp [h7, fldSF_ins, putFV_rk]
theorem rk_alts {S : Store} {xs : List Str} : callD m_Ranking_alternatives [.p (Rk xs)] S = .n (.lst (xs.map dS)) S := by
  rw [callD_1]
  unfold m_Ranking_alternatives
  simp
theorem rk_len {S : Store} {xs : List Str} : callD m_Ranking___len__ [.p (Rk xs)] S = .v (.p (dI (xs.length : Nat))) S := by
  rw [callD_1]
  unfold m_Ranking___len__
  simp
theorem rk_filt {xs : List Str} {p : Str → Bool} {S : Store} {ds : List Dat} (h : RkOk xs) (e : ds = (xs.filter p).map dS) : makeD "Ranking" m_Ranking___init__ [.p (.lst ds)] S = .n (RkC (xs.filter p)) S := by
  rw [e]
  exact rk_init h.filter
theorem rk_and {S : Store} {xs ys : List Str} (h : RkOk xs) : callD m_Ranking___and__ [.p (Rk xs), .p (Com ys)] S = .n (RkC (xs.filter fun x => decide (x ∈ ys))) S := by
  have hl := h.le
  rw [callD_2]
  unfold m_Ranking___and__
  simp [lcK_ok (show (xs.map dS).length ≤ 100000 by rw [List.length_map]; omega)]
  rw [lc_filter (p := fun x => decide (x ∈ ys)) (fun x _ => by simp [members_ok]) (fun x _ => by simp)]
  simp [rk_filt h rfl]
theorem is_num_ok {S : Store} {i a b : Int} : callD m_is_number [.p (dI i), .p (dI a), .p (dI b)] S = .v (.p (dB (decide (a ≤ i) && decide (i ≤ b)))) S := by
  rw [callD_3]
  unfold m_is_number
  by_cases h : a ≤ i <;> simp [h]
theorem rk_get {S : Store} {xs : List Str} {i : Nat} {z : Str} (h : xs[i]? = some z) : callD m_Ranking___getitem__ [.p (Rk xs), .p (dI i)] S = .v (.p (dS z)) S := by
  obtain ⟨hi, _⟩ := List.getElem?_eq_some_iff.1 h
  rw [callD_2]
  unfold m_Ranking___getitem__
  have h2 : (i : Int) ≤ (xs.length : Int) - 1 := by omega
  have h3 : pIxL [.lst (xs.map dS), dI i] = .d (dS z) := pIxL_at (by rw [Mr.atI_nat, List.getElem?_map, h]; rfl)
  simp [is_num_ok, h2, h3]
theorem rk_worst {S : Store} {xs ys : List Str} (h : RkOk xs) : callD m_Ranking_worst [.p (Rk xs), .p (Com ys)] S = .v (.p (oS (wst xs ys))) S := by
  have hl := h.le
  rw [callD_2]
  unfold m_Ranking_worst
  have hf := List.length_filter_le (fun x => decide (x ∈ ys)) xs
  have e1 := fun S => rk_and (S := S) (ys := ys) h
  unfold wst
  generalize (xs.filter fun x => decide (x ∈ ys)) = zs at *
  have e2 := fun S => rk_len (S := S) (xs := zs)
  have g1 := gLen_n (i := zs.length) (by omega)
  cases hz : zs.getLast? with
  | none =>
    have hz' : zs = [] := List.getLast?_eq_none_iff.1 hz
    have h6 : ¬ (0 : Int) < ((zs.length : Nat) : Int) := by rw [hz']; decide
    have h7 : ¬ 0 < zs.length := by rw [hz']; decide
    simp [e1, e2, g1, h6, h7, oS]
  | some z =>
    have hp : 0 < zs.length := by
      rcases Nat.eq_zero_or_pos zs.length with q | q
      · rw [List.length_eq_zero_iff.1 q] at hz; cases hz
      · exact q
    have e3 := fun S => rk_get (S := S) (show zs[zs.length - 1]? = some z by rw [← List.getLast?_eq_getElem?, hz])
    rw [show (((zs.length - 1 : Nat)) : Int) = ((zs.length : Nat) : Int) - 1 by omega] at e3
    have h6 : (0 : Int) < ((zs.length : Nat) : Int) := by omega
    have h7 : zs ≠ [] := List.length_pos_iff.1 hp
    simp [e1, e2, g1, h6, h7, hp, e3, oS]
theorem as_com {S : Store} {xs : List Str} (h : RkOk xs) : callD m_as_committee [.p (Rk xs)] S = .n (ComC (dist xs)) S := by
  have hl := h.le
  rw [callD_1]
  unfold m_as_committee
  have e := init_ok (S := []) h.nm (by omega) (Nat.le_trans (dd_len _) hl)
  simp [rk_alts, e]


/-! ### turns -/
theorem tn_init {S : Store} {xs : List Str} (h : Nms xs) (hl : xs.length ≤ 30) : makeD "Turns" m_Turns___init__ [.p (dLs xs)] S = .n (TnC xs) S := by
  rw [makeD_1]
  unfold m_Turns___init__
  have h3 := fun S => are_names_ok (S := S) h (by omega)
  have h5 : ¬ ((30 : Int) < ((xs.length : Nat) : Int)) := by omega
  have h6 : ¬ (30 < xs.length) := by omega
  simp [h3, h5, h6, fldSF_ins]
theorem tn_players {S : Store} {xs : List Str} : callD m_Turns_players [.p (Tn xs)] S = .n (.lst (xs.map dS)) S := by
  rw [callD_1]
  unfold m_Turns_players
  simp
theorem tn_len {S : Store} {xs : List Str} : callD m_Turns___len__ [.p (Tn xs)] S = .v (.p (dI (xs.length : Nat))) S := by
  rw [callD_1]
  unfold m_Turns___len__
  simp
/-! ### games -/
theorem g_first {S : Store} {rs : List (Str × List Str)} {ts : List Str} (h : RsOk' rs) : callD m_Game_first_ranking [.p (Gm rs ts)] S = .v (.p (Rk (alt rs))) S := by
  rw [callD_1]
  unfold m_Game_first_ranking
  obtain ⟨p, r, e⟩ := h.alt_mem
  have : pIxL [.lst (List.map (fun p => p.2) (RD rs)), dI 0] = .d (Rk (alt rs)) := by
    rw [show List.map (fun p => p.2) (RD rs) = rs.map fun p => Rk p.2 from RD_vals]
    conv => lhs; rw [e, List.map_cons]
    exact pIxL_0
  simp only [defM_1, retM_app, opM_app, listVM_app, fldM_app, varM_app]
  simp [-List.map_map, this]
theorem g_alts {S : Store} {rs : List (Str × List Str)} {ts : List Str} (h : RsOk' rs) : callD m_Game_alternatives [.p (Gm rs ts)] S = .n (ComC (dist (alt rs))) S := by
  rw [callD_1]
  unfold m_Game_alternatives
  simp [g_first h, as_com h.alt_ok]
theorem g_turns {S : Store} {rs : List (Str × List Str)} {ts : List Str} : callD m_Game_turns [.p (Gm rs ts)] S = .v (.p (Tn ts)) S := by
  rw [callD_1]
  unfold m_Game_turns
  simp
theorem g_rank {S : Store} {rs : List (Str × List Str)} {ts : List Str} {p : Str} (h : RsOk' rs) (hp : p ∈ rs.map (·.1)) : callD m_Game_ranking_of [.p (Gm rs ts), .p (dS p)] S = .v (.p (Rk (look rs p))) S := by
  rw [callD_2]
  unfold m_Game_ranking_of
  have h1 := h.p_nm hp
  have h2 := isNm_len h1
  have h3 := fun S => is_name_ok (S := S) (z := p) (by omega)
  have h4 := lookK_RD hp
  simp [h3, h1, h4]


/-! ### games are made -/
structure RsPre (rs : List (Str × List Str)) : Prop where
  ne : rs ≠ []
  nm : ∀ p ∈ rs, isNm p.1 = true
  nd : (rs.map (·.1)).Nodup
  rk : ∀ p ∈ rs, RkOk p.2
  sm : ∀ p ∈ rs, ∀ q ∈ rs, p.2.Perm q.2
  le : rs.length ≤ 60
theorem RsOk'.pre {rs : List (Str × List Str)} (h : RsOk' rs) : RsPre rs := ⟨h.ne, h.nm, h.nd, h.rk, h.sm, h.le⟩
def sortR (rs : List (Str × List Str)) : List (Str × List Str) := (srt (rs.map (·.1))).map fun p => (p, look rs p)
theorem sortR_keys {rs : List (Str × List Str)} : (sortR rs).map (·.1) = srt (rs.map (·.1)) := by
  unfold sortR
  rw [List.map_map]
  exact List.map_id _
theorem look_eq {rs : List (Str × List Str)} (hn : (rs.map (·.1)).Nodup) {p : Str × List Str} (hp : p ∈ rs) : look rs p.1 = p.2 := by
  induction rs with
  | nil => cases hp
  | cons q rs ih =>
    rw [List.map_cons, List.nodup_cons] at hn
    unfold look
    rw [List.find?_cons]
    by_cases e : q.1 = p.1
    · rw [decide_eq_true e]
      rcases List.mem_cons.1 hp with rfl | h
      · rfl
      · exact absurd (List.mem_map.2 ⟨p, h, e.symm⟩) hn.1
    · rw [decide_eq_false e]
      rcases List.mem_cons.1 hp with rfl | h
      · exact absurd rfl e
      · exact ih hn.2 h
theorem sortR_ok {rs : List (Str × List Str)} (h : RsPre rs) : RsOk' (sortR rs) := by
  have hm : ∀ p ∈ sortR rs, p ∈ rs := by
    intro p hp
    unfold sortR at hp
    obtain ⟨k, hk, rfl⟩ := List.mem_map.1 hp
    rw [srt_mem] at hk
    obtain ⟨xs, h1, h2, _⟩ := look_mem hk
    rw [h2]
    exact h1
  refine ⟨?_, fun p hp => h.nm p (hm p hp), ?_, ?_, fun p hp => h.rk p (hm p hp), fun p hp q hq => h.sm p (hm p hp) q (hm q hq), ?_⟩
  · intro e
    have : (sortR rs).length = 0 := by rw [e]; rfl
    unfold sortR at this
    rw [List.length_map, srt_len, List.length_map] at this
    exact h.ne (List.length_eq_zero_iff.1 this)
  · rw [sortR_keys]
    exact (srt_perm _).nodup_iff.2 h.nd
  · rw [sortR_keys]
    exact srt_pw _
  · unfold sortR
    rw [List.length_map, srt_len, List.length_map]
    exact h.le
theorem sortR_id {rs : List (Str × List Str)} (hn : (rs.map (·.1)).Nodup) (hp : (rs.map (·.1)).Pairwise (fun a b => sle a b = true)) : sortR rs = rs := by
  unfold sortR
  rw [srt_of_pw hp, List.map_map]
  conv => rhs; rw [← List.map_id rs]
  apply List.map_congr_left
  intro p hp
  show (p.1, look rs p.1) = p
  rw [look_eq hn hp]
theorem pEqK_ne {rs : List (Str × List Str)} {neg : Bool} (h : rs ≠ []) : pEqK neg [.dK (RD rs), .dK []] = .d (dB neg) := by
  unfold pEqK
  dsimp only
  have : ¬ (RD rs).length = ([] : List (Key × Dat)).length := by
    intro e
    rw [List.length_map] at e
    exact h (List.length_eq_zero_iff.1 e)
  rw [decide_eq_false this]
theorem fItems_RD {rs : List (Str × List Str)} : (RD rs).map (fun p => Dat.tup [kD p.1, p.2]) = rs.map fun p => .tup [dS p.1, Rk p.2] := by
  rw [List.map_map]
  rfl
theorem g_check {S : Store} {rs : List (Str × List Str)} (h : RsPre rs) : callD m_check_rankings [.p (.dK (RD rs))] S = .v (.p dN) S := by
  have hl := h.le
  rw [callD_1]
  unfold m_check_rankings
  have hl2 : (rs.map fun p => Dat.tup [dS p.1, Rk p.2]).length ≤ 100000 := by rw [List.length_map]; omega
  have hl3 : ((RD rs).map fun p => p.2).length ≤ 100000 := by rw [List.length_map, List.length_map]; omega
  have h0 := pEqK_ne (neg := false) h.ne
  obtain ⟨⟨q, xs⟩, r, e⟩ := List.exists_cons_of_ne_nil h.ne
  have hx : (q, xs) ∈ rs := by rw [e]; exact List.mem_cons_self
  have hxo := h.rk _ hx
  have h1 : pIxL [.lst (List.map (fun p => p.2) (RD rs)), dI 0] = .d (Rk xs) := by
    rw [show List.map (fun p => p.2) (RD rs) = rs.map fun p => Rk p.2 from RD_vals]
    conv => lhs; rw [e, List.map_cons]
    exact pIxL_0
  have a1 := fun S => as_com (S := S) hxo
  have l1 : ∀ Γ, Γ = [some (Val.p (.dK (RD rs))), none, none, none] → lcL (mgT [mgN 2, mgN 3]) [2, 3] yesT (andM (callM m_is_name [varM 2]) (callB pIsi [varM 3, glbM "Ranking"])) Γ (rs.map fun p => Dat.tup [dS p.1, Rk p.2]) [] = some (rs.map fun _ => dB true, []) := by
    intro Γ hΓ
    subst hΓ
    rw [lcL_map (f := fun _ => dB true) (fun p _ => rfl) (fun p hp => by
      have n1 := h.nm p hp
      have n2 := isNm_len n1
      have n3 := fun S => is_name_ok (S := S) (z := p.1) (by omega)
      simp [n3, n1, pIsi_rk])]
  have l2 : ∀ Γ, Γ = [some (Val.p (.dK (RD rs))), some (Val.p (Rk xs)), none, none] → lcL (mgN 3) [3] yesT (eqO "Committee" m_Committee___eq__ false (callM m_as_committee [varM 3]) (callM m_as_committee [varM 1])) Γ (List.map (fun p => p.2) (RD rs)) [] = some (rs.map fun _ => dB true, []) := by
    intro Γ hΓ
    subst hΓ
    rw [show List.map (fun p => p.2) (RD rs) = rs.map fun p => Rk p.2 from RD_vals, lcL_map (f := fun _ => dB true) (fun p _ => rfl) (fun p hp => by
      have n1 := fun S => as_com (S := S) (h.rk p hp)
      have n2 := dist_perm (h.sm p hp _ hx)
      have n3 := fun S => eq_ok (S := S) (dist_nms hxo.nm) (dist_nms hxo.nm)
      simp only [n2] at n1
      simp [n1, a1, n3])]
  have p1 : pAll [.lst (rs.map fun _ => dB true)] = .d (dB true) := by
    rw [pAll_f]
    simp
  simp [-List.map_map, h0, fItems_RD, lcK_ok hl2, l1 _ rfl, p1, h1, lcK_ok hl3, l2 _ rfl]
abbrev GmP (rs : List (Str × List Str)) : MCell := .ins "Game" [("own_rankings", .p (.dK (RD rs)))]
theorem g_first_r {rs : List (Str × List Str)} (h : RsOk' rs) : m_Game_first_ranking [.r 0] [GmP rs] = .ret (.p (Rk (alt rs))) [GmP rs] := by
  unfold m_Game_first_ranking
  obtain ⟨p, r, e⟩ := h.alt_mem
  have : pIxL [.lst (List.map (fun p => p.2) (RD rs)), dI 0] = .d (Rk (alt rs)) := by
    rw [show List.map (fun p => p.2) (RD rs) = rs.map fun p => Rk p.2 from RD_vals]
    conv => lhs; rw [e, List.map_cons]
    exact pIxL_0
  simp [-List.map_map, fldV, this]
theorem g_first_c {rs : List (Str × List Str)} (h : RsOk' rs) : callD m_Game_first_ranking [.r 0] [GmP rs] = .v (.p (Rk (alt rs))) [GmP rs] := by
  rw [callO_r (c := GmP rs) rfl rfl, g_first_r h, backO_ret rfl]
  rfl
theorem recv_gp1 {rs : List (Str × List Str)} : recv "Game" "first_ranking" [GmP rs] (.r 0) = true := rfl
theorem recv_gp2 {rs : List (Str × List Str)} : recv "Game" "check_turns" [GmP rs] (.r 0) = true := rfl
theorem g_cturns {rs : List (Str × List Str)} {ts : List Str} (h : GOk rs ts) : m_Game_check_turns [.r 0, .p (Tn ts)] [GmP rs] = .ret (.p dN) [GmP rs] := by
  unfold m_Game_check_turns
  have ha := h.ro.alt_ok.le
  have ht := h.tl
  have h1 := gLen_n (i := (alt rs).length) (by omega)
  have h2 := gLen_n (i := ts.length) (by omega)
  have h3 := fun S => rk_len (S := S) (xs := alt rs)
  have h4 := fun S => tn_len (S := S) (xs := ts)
  have h5 := g_first_c h.ro
  have h6 := fun S => tn_players (S := S) (xs := ts)
  have h7 : ¬ (((alt rs).length : Nat) : Int) < ((ts.length : Nat) : Int) := by omega
  have h8 : ¬ (alt rs).length < ts.length := by omega
  simp [pIsi_tn, h1, h2, h3, h4, h5, h6, h7, h8, recv_gp1]
  rw [lcK_ok (by rw [List.length_map]; omega), lcL_map (f := fun _ => dB true) (fun p _ => rfl) (fun p hp => by
    have := lookK_RD (h.tm p hp)
    simp [fldV, this])]
  simp [pAll_f]
theorem putFV_gm {a b : Val} : putFV "own_turns" b [(("own_rankings" : Str), a)] = [(("own_rankings" : Str), a), (("own_turns" : Str), b)] := rfl
theorem keys_sd {S : Store} {rs : List (Str × List Str)} (hl : rs.length < 64) : pSortD [.dK (RD rs)] = .n (.lst ((srt (rs.map (·.1))).map dS)) := pSortD_s RD_keys (by rw [List.length_map]; exact hl)
theorem g_init {S : Store} {rs : List (Str × List Str)} {ts : List Str} (h : RsPre rs) (hg : GOk (sortR rs) ts) : makeD "Game" m_Game___init__ [.p (.dK (RD rs)), .p (Tn ts)] S = .n (GmC (sortR rs) ts) S := by
  have hl := h.le
  rw [makeD_2]
  unfold m_Game___init__
  have h1 := fun S => g_check (S := S) h
  have h2 : pSortD [.dK (RD rs)] = .n (.lst ((srt (rs.map (·.1))).map dS)) := pSortD_s RD_keys (by rw [List.length_map]; omega)
  have h3 : ((srt (rs.map (·.1))).map dS).length ≤ 100000 := by rw [List.length_map, srt_len, List.length_map]; omega
  have h4 : mkD ((srt (rs.map (·.1))).map fun p => ((Sum.inr p : Key), Rk (look rs p))) = RD (sortR rs) := by
    rw [mkD_nodup]
    · unfold sortR RD
      rw [List.map_map]
      rfl
    · rw [List.map_map]
      show ((srt (rs.map (·.1))).map Sum.inr).Nodup
      exact List.Pairwise.map _ (fun a b h e => h (by cases e; rfl)) ((srt_perm _).nodup_iff.2 h.nd)
  have h5 : callD m_Game_check_turns [.r 0, .p (Tn ts)] [GmP (sortR rs)] = .v (.p dN) [GmP (sortR rs)] := by
    rw [callO_rp (c := GmP (sortR rs)) rfl rfl, g_cturns hg, backO_ret rfl]
    rfl
  have l2 : ∀ S, dcL (mgN 3) [3] yesT (varM 3) (dgetM (varM 1) (varM 3)) [some (Val.r 0), some (Val.p (.dK (RD rs))), some (Val.p (Tn ts)), none] ((srt (rs.map (·.1))).map dS) S = some ((srt (rs.map (·.1))).map fun p => ((Sum.inr p : Key), Rk (look rs p)), S) := fun S => by
    rw [dcL_map (R := dS) (k := fun p => (Sum.inr p : Key)) (kd := dS) (f := fun p => Rk (look rs p)) (fun p _ => rfl) (fun p _ => by simp) (fun p _ => rfl) (fun p hp => by
      rw [srt_mem] at hp
      have := lookK_RD hp
      simp [this])]
  simp [-List.map_map, h1, h2, dcK_ok h3, l2, h4, fldSF_ins, recv_gp2, h5, putFV_gm]
theorem g_make {S : Store} {rs : List (Str × List Str)} {ts : List Str} (hg : GOk rs ts) : makeD "Game" m_Game___init__ [.p (.dK (RD rs)), .p (Tn ts)] S = .n (GmC rs ts) S := by
  have e := sortR_id hg.ro.nd hg.ro.pw
  have := g_init (S := S) hg.ro.pre (ts := ts) (by rw [e]; exact hg)
  rw [e] at this
  exact this
/-! ### passing -/
theorem dist_one {x : Str} : dist [x] = [x] := dist_of (List.nodup_cons.2 ⟨List.not_mem_nil, List.nodup_nil⟩) (List.pairwise_singleton _ _)
theorem com_one {S : Store} {x : Str} (h : isNm x = true) : makeD "Committee" m_Committee___init__ [.p (.lst [dS x])] S = .n (ComC [x]) S := by
  have := init_ok (S := S) (ms := [x]) (fun m hm => by rw [List.mem_singleton.1 hm]; exact h) (by show 1 ≤ 100000; decide) (Nat.le_trans (dd_len _) (by show 1 ≤ 30; decide))
  rw [dist_one] at this
  exact this
theorem com_rem {S : Store} {rs : List (Str × List Str)} {A : List Str} {x : Str} (ho : RsOk' rs) (h : Sub rs A) : callD m_Committee___sub__ [.p (Com A), .p (Com [x])] S = .n (ComC (rem A x)) S := by
  rw [sub_ok (h.nms ho) (h.le ho)]
  have : (A.filter fun y => !decide (y ∈ [x])) = rem A x := by
    unfold rem
    apply List.filter_congr
    intro y _
    simp
  rw [this, h.rem.dist]
abbrev stD (qs : List (Str × Str)) : List Dat := qs.map fun q => .tup [dS q.1, dS q.2]
theorem rev_cons {ts us : List Str} : ts.foldl (fun us t => t :: us) us = ts.reverse ++ us := by
  induction ts generalizing us with
  | nil => rfl
  | cons t ts ih => rw [List.foldl_cons, ih]; simp
theorem p_pass {S : Store} {rs : List (Str × List Str)} {ts : List Str} (h : GOk rs ts) : callD m_backward_pass [.p (Gm rs ts)] S = .n (.lst (stD (bkS rs ts (dist (alt rs))))) S := by
  rw [callD_1]
  unfold m_backward_pass
  have ho := h.ro
  have ha := ho.alt_ok.le
  have hn := dist_nd_len ho.alt_ok.nd
  have h1 := fun S => g_alts (S := S) (ts := ts) ho
  have h2 := fun S => g_turns (S := S) (rs := rs) (ts := ts)
  have h3 := fun S => tn_players (S := S) (xs := ts)
  generalize hA : dist (alt rs) = A at *
  have hS : Sub rs A := hA ▸ Sub.all
  have loop := forL_sti (mg := mgN 3) (wp := [3, 4]) (b := (seqM (asgM 4 (methM "Ranking" "worst" m_Ranking_worst (methM "Game" "ranking_of" m_Game_ranking_of (varM 0) [(varM 3)]) [(varM 2)])) (seqM (dropM (mutL appP (varM 1) [(tupM [(varM 3), (varM 4)])])) (asgM 2 (binO "Committee" m_Committee___sub__ [] false (varM 2) (makeM "Committee" m_Committee___init__ [(lstM [(varM 4)])]))))))
    (R := dS) (Γs := fun us => [some (.p (Gm rs ts)), some (.r 0), some (.p (Com (bk rs us A))), none, none]) (Ss := fun us => [.lst (stD (bkS rs us A))]) (step := fun us t => t :: us)
    (I := fun rem us => (∀ t ∈ rem, t ∈ rs.map (·.1)) ∧ (∀ t ∈ us, t ∈ rs.map (·.1)) ∧ rem.length + us.length ≤ A.length) (xs := ts.reverse) (s := ([] : List Str)) (fun t rem us hI => by
      obtain ⟨i1, i2, i3⟩ := hI
      have ht := i1 t List.mem_cons_self
      rw [List.length_cons] at i3
      have hb := bk_len ho hS i2 (by omega)
      have hne : bk rs us A ≠ [] := by intro e; rw [e] at hb; simp at hb; omega
      obtain ⟨x, e1, e2, e3⟩ := stk_wst hS.bk ho ht hne
      refine ⟨⟨fun u hu => i1 u (List.mem_cons_of_mem _ hu), fun u hu => (List.mem_cons.1 hu).elim (fun e => e ▸ ht) (i2 u), by rw [List.length_cons]; omega⟩, _, rfl, ?_⟩
      have f1 := fun S => g_rank (S := S) (ts := ts) ho ht
      have f2 := fun S => rk_worst (S := S) (ys := bk rs us A) (ho.look_ok ht)
      rw [e1] at f2
      have hx : isNm x = true := hS.bk.nms ho x e2
      have f3 := fun S => com_one (S := S) hx
      have f4 := fun S => com_rem (S := S) (x := x) ho (hS.bk (ts := us))
      have hl : (stD (bkS rs us A)).length < 100000 := by
        have := congrArg List.length (bkS_len ho hS i2 (by omega))
        rw [List.length_map, List.length_reverse] at this
        rw [List.length_map, this]
        omega
      have f5 := appP_1 (d := .tup [dS t, dS x]) hl
      have g1 : bk rs (t :: us) A = Toy.rem (bk rs us A) x := e3
      have g2 : stD (bkS rs (t :: us) A) = stD (bkS rs us A) ++ [.tup [dS t, dS x]] := by
        rw [bkS_snoc, e1]
        simp
      rw [g1, g2]
      simp [-List.map_map, f1, f2, f3, f4, f5, oS])
    ⟨fun t ht => h.tm t (List.mem_reverse.1 ht), fun t ht => (List.not_mem_nil ht).elim, by rw [List.length_reverse, List.length_nil]; have := h.tl; omega⟩
  have loop1 := loop.1
  rw [rev_cons, List.reverse_reverse, List.append_nil, show bk rs [] A = A from rfl, show bkS rs [] A = [] from rfl, List.map_reverse, show stD ([] : List (Str × Str)) = [] from rfl] at loop1
  simp [-List.map_map, h1, h2, h3, loop1]
theorem p_out {S : Store} {rs : List (Str × List Str)} {ts : List Str} (h : GOk rs ts) : callD m_outcome [.p (Gm rs ts)] S = .n (ComC (outc rs ts)) S := by
  rw [callD_1]
  unfold m_outcome
  have ho := h.ro
  have hS : Sub rs (dist (alt rs)) := Sub.all
  have hl : ts.length ≤ (dist (alt rs)).length := by rw [dist_nd_len ho.alt_ok.nd]; exact h.tl
  have hk := bkS_len ho hS h.tm hl
  have hk2 : (bkS rs ts (dist (alt rs))).length = ts.length := by
    have := congrArg List.length hk
    rw [List.length_map, List.length_reverse] at this
    exact this
  have ht := h.t_le
  have h1 := fun S => g_alts (S := S) (ts := ts) ho
  have h2 := fun S => p_pass (S := S) h
  have h3 : Nms ((bkS rs ts (dist (alt rs))).map (·.2)) := fun m hm => by
    exact bkS_nms ho hS m hm
  have l1 : ∀ Γ, Γ = [some (Val.p (Gm rs ts)), none, none] → lcL (mgT [mgN 1, mgN 2]) [1, 2] yesT (varM 2) Γ (stD (bkS rs ts (dist (alt rs)))) [] = some (((bkS rs ts (dist (alt rs))).map (·.2)).map dS, []) := by
    intro Γ hΓ
    subst hΓ
    rw [lcL_map (f := fun q : Str × Str => dS q.2) (fun q _ => rfl) (fun q _ => by simp), List.map_map]
    rfl
  have h4 := fun S => init_ok (S := S) h3 (by rw [List.length_map]; omega) (Nat.le_trans (dd_len _) (by rw [List.length_map]; omega))
  have h5 := fun S => sub_ok (S := S) (ys := dist ((bkS rs ts (dist (alt rs))).map (·.2))) (hS.nms ho) (hS.le ho)
  have h6 : ((dist (alt rs)).filter fun y => !decide (y ∈ dist ((bkS rs ts (dist (alt rs))).map (·.2)))) = outc rs ts := by
    show _ = bk rs ts (dist (alt rs))
    rw [bk_filter]
    apply List.filter_congr
    intro y _
    simp [dist_mem]
  rw [h6, hS.bk.dist] at h5
  simp [-List.map_map, h1, h2, lcK_ok (show (stD (bkS rs ts (dist (alt rs)))).length ≤ 100000 by rw [List.length_map]; omega), l1 _ rfl, h4, h5]

/-! ### drawn games -/
theorem popAtP_at {ds : List Dat} {q : Int} (h0 : 0 ≤ q) (h1 : q < (ds.length : Nat)) (h2 : ds.length ≤ 100000) : ∃ d, popAtP ds [dI q] = some (d, ds.eraseIdx q.toNat) ∧ ds[q.toNat]? = some d := by
  have hq : q.toNat < ds.length := by omega
  refine ⟨ds[q.toNat], ?_, List.getElem?_eq_getElem hq⟩
  have e1 : seqIndex? q ds.length = some q.toNat := by
    unfold seqIndex?
    simp
    omega
  unfold popAtP
  dsimp only
  rw [decide_eq_true (show q.natAbs < 2 ^ 62 by omega), e1]
  dsimp only
  rw [List.getElem?_eq_getElem hq]
theorem cons_eraseIdx {α : Type} {d : α} : ∀ {l : List α} {k : Nat}, l[k]? = some d → (d :: l.eraseIdx k).Perm l
  | [], k, h => by simp at h
  | a :: l, 0, h => by
    cases h
    exact List.Perm.refl _
  | a :: l, k + 1, h => by
    have := cons_eraseIdx (l := l) (k := k) (by simpa using h)
    exact (List.Perm.swap a d _).trans (this.cons a)
theorem rgD_len {a : Int} {n : Nat} : (rgD a n).length = n := by simp [rgD]
def ShN (ds : List Dat) (r : DR) : Prop := ∃ (es : List Dat) (a b : Int), r = .new (.lst es) [.lst [dI a, dI b]] ∧ es.Perm ds ∧ 0 ≤ a ∧ 0 ≤ b ∧ b < 2147483647
theorem shuffled_ok {a b : Int} {ds : List Dat} (ha : 0 ≤ a) (hb : 0 ≤ b) (hb2 : b < 2147483647) (hl : ds.length ≤ 1000) : ShN ds (m__law_shuffled [.r 0, .p (.lst ds)] [.lst [dI a, dI b]]) := by
  unfold m__law_shuffled
  obtain ⟨S2, e, hI⟩ := forL_ix (Γ := [some (.r 0), some (.p (.lst ds)), some (.r 1), some (.r 2), none]) (mg := mgN 4) (wp := [4]) (b := (dropM (mutL appP (varM 3) [(mutL popAtP (varM 2) [(callM m__law_draw [(varM 0), (callB pLen [(varM 2)])])])])))
    (I := fun j S => ∃ (s left found : List Dat), S = [.lst s, .lst left, .lst found] ∧ Strm [.lst s, .lst left, .lst found] 0 ∧ left.length + j = ds.length ∧ (found ++ left).Perm ds) (ds := rgD 0 ds.length) (j0 := 0) (S := [.lst [dI a, dI b], .lst ds, .lst []])
    (fun j d hj S hI => by
      obtain ⟨s, left, found, rfl, st, h1, h2⟩ := hI
      have hj2 : j < ds.length := by
        have := (List.getElem?_eq_some_iff.1 hj).1
        simpa [rgD] using this
      rw [Nat.zero_add] at h1 ⊢
      obtain ⟨q, a', b', e1, h3, h4, st'⟩ := call_draw st (n := (left.length : Nat)) (by omega) (by omega)
      obtain ⟨d', e2, h5⟩ := popAtP_at h3 h4 (by omega)
      have hf : found.length < 100000 := by
        have := h2.length_eq
        rw [List.length_append] at this
        omega
      have e3 := appP_1 (d := d') hf
      have hq : q.toNat < left.length := by omega
      have h6 := cons_eraseIdx h5
      refine ⟨_, rfl, [some (.r 0), some (.p (.lst ds)), some (.r 1), some (.r 2), some (.p d)], [.lst [dI a', dI b'], .lst (left.eraseIdx q.toNat), .lst (found ++ [d'])], ?_, rfl, [dI a', dI b'], left.eraseIdx q.toNat, found ++ [d'], rfl, ?_, ?_, ?_⟩
      · simp [e1, e2, e3]
      · obtain ⟨x, y, z, w⟩ := st'
        cases z
        exact ⟨_, _, rfl, w⟩
      · rw [List.length_eraseIdx_of_lt hq]
        omega
      · rw [List.append_assoc]
        exact (h6.append_left found).trans h2) ⟨_, _, _, rfl, ⟨a, b, rfl, ha, hb, hb2⟩, rfl, List.Perm.refl _⟩
  obtain ⟨s, left, found, rfl, ⟨a', b', z, h1, h2, h3⟩, h4, h5⟩ := hI
  cases z
  have hz : left = [] := by
    apply List.length_eq_zero_iff.1
    rw [rgD_len] at h4
    omega
  subst hz
  rw [List.append_nil] at h5
  refine ⟨found, a', b', ?_, h5, h1, h2, h3⟩
  simp [fRng1_int (show (-100000 : Int) ≤ (ds.length : Nat) by omega) (show ((ds.length : Nat) : Int) ≤ 100000 by omega), e]
  exact fin_r (by decide) rfl
theorem call_shuffled {S : Store} {i : Nat} {ds : List Dat} (h : Strm S i) (hl : ds.length ≤ 1000) : ∃ (es : List Dat) (a b : Int), callD m__law_shuffled [.r i, .p (.lst ds)] S = .n (.lst es) (S.set i (.lst [dI a, dI b])) ∧ es.Perm ds ∧ Strm (S.set i (.lst [dI a, dI b])) i := by
  have h' := h
  obtain ⟨a, b, hS, ha, hb, hb2⟩ := h
  obtain ⟨es, a', b', e, h2, h3, h4, h5⟩ := shuffled_ok ha hb hb2 hl
  exact ⟨es, a', b', by rw [callD_rp hS rfl, e, back1_lst rfl], h2, h'.put h3 h4 h5⟩
theorem perm_strs {es : List Dat} {xs : List Str} (h : es.Perm (xs.map dS)) : ∃ ys : List Str, es = ys.map dS ∧ ys.Perm xs := by
  have h1 : ∀ e ∈ es, ∃ y, e = dS y := fun e he => by
    obtain ⟨y, _, rfl⟩ := List.mem_map.1 (h.mem_iff.1 he)
    exact ⟨y, rfl⟩
  obtain ⟨ys, rfl⟩ : ∃ ys : List Str, es = ys.map dS := by
    clear h
    induction es with
    | nil => exact ⟨[], rfl⟩
    | cons e es ih =>
      obtain ⟨y, rfl⟩ := h1 e List.mem_cons_self
      obtain ⟨ys, rfl⟩ := ih fun e he => h1 e (List.mem_cons_of_mem _ he)
      exact ⟨y :: ys, rfl⟩
  refine ⟨ys, rfl, ?_⟩
  have hg : ∀ zs : List Str, (zs.map dS).map (fun d => match d with | .v (.str z) => z | _ => Str.empty) = zs := fun zs => by
    rw [List.map_map]
    exact List.map_id _
  have := h.map (fun d => match d with | .v (.str z) => z | _ => Str.empty)
  rw [hg, hg] at this
  exact this
theorem call_shufS {S : Store} {i : Nat} {xs : List Str} (h : Strm S i) (hl : xs.length ≤ 1000) : ∃ (ys : List Str) (a b : Int), callD m__law_shuffled [.r i, .p (dLs xs)] S = .n (.lst (ys.map dS)) (S.set i (.lst [dI a, dI b])) ∧ ys.Perm xs ∧ Strm (S.set i (.lst [dI a, dI b])) i := by
  obtain ⟨es, a, b, e, h1, h2⟩ := call_shuffled (ds := xs.map dS) h (by rw [List.length_map]; exact hl)
  obtain ⟨ys, rfl, h3⟩ := perm_strs h1
  exact ⟨ys, a, b, e, h3, h2⟩
theorem cut_take {ds : List Dat} {i : Nat} (h : i ≤ ds.length) : cutD ds none (some (i : Int)) = ds.take i := by
  unfold cutD
  rw [HT.sIx_none, HT.sIx_nat, List.drop_zero, Nat.min_eq_left h, Nat.sub_zero]
theorem strs_of {es : List Dat} {P : Str → Prop} (h : ∀ e ∈ es, ∃ y, e = dS y ∧ P y) : ∃ ys : List Str, es = ys.map dS ∧ ∀ y ∈ ys, P y := by
  induction es with
  | nil => exact ⟨[], rfl, fun _ h => (List.not_mem_nil h).elim⟩
  | cons e es ih =>
    obtain ⟨y, rfl, hy⟩ := h e List.mem_cons_self
    obtain ⟨ys, rfl, hys⟩ := ih fun e he => h e (List.mem_cons_of_mem _ he)
    exact ⟨y :: ys, rfl, fun z hz => (List.mem_cons.1 hz).elim (fun e => e ▸ hy) (hys z)⟩
abbrev RL (rs : List (Str × List Str)) : List (Key × Dat) := rs.map fun p => (Sum.inr p.1, dLs p.2)
def PLY : List Str := ["ann", "bob", "cy", "dee"]
theorem PLY_nms : Nms PLY := by decide +kernel
theorem PLY_nd : PLY.Nodup := by decide +kernel
theorem PLY_pw : PLY.Pairwise (fun a b => sle a b = true) := by decide +kernel
structure DrOk (most : Nat) (rs : List (Str × List Str)) (ts : List Str) : Prop where
  g : GOk rs ts
  lo : 1 ≤ (alt rs).length
  hi : (alt rs).length ≤ most
  pl : ∃ k, rs.map (·.1) = PLY.take k
def DrN (most : Nat) (r : DR) : Prop := ∃ (rs : List (Str × List Str)) (ts : List Str) (a b : Int), r = .new (.lst [.dK (RL rs), dLs ts]) [.lst [dI a, dI b]] ∧ DrOk most rs ts ∧ 0 ≤ a ∧ 0 ≤ b ∧ b < 2147483647
theorem four {q : Int} (h0 : 0 ≤ q) (h1 : q < 4) : q = 0 ∨ q = 1 ∨ q = 2 ∨ q = 3 := by omega
theorem pIxL_2 {a b c d : Dat} : pIxL [.lst [a, b, c, d], dI 2] = .d c := pIxL_at rfl
theorem pIxL_3 {a b c d : Dat} : pIxL [.lst [a, b, c, d], dI 3] = .d d := pIxL_at rfl
theorem drawn_ok {a b : Int} {most pls : Nat} (ha : 0 ≤ a) (hb : 0 ≤ b) (hb2 : b < 2147483647) (hm : 1 ≤ most) (hm2 : most ≤ 26) (hp : 1 ≤ pls) (hp2 : pls ≤ 4) : DrN most (m__law_drawn [.r 0, .p (dI most), .p (dI pls)] [.lst [dI a, dI b]]) := by
  have s0 : Strm [.lst [dI a, dI b]] 0 := ⟨a, b, rfl, ha, hb, hb2⟩
  obtain ⟨q1, a1, b1, e1, h11, h12, s1⟩ := call_draw s0 (n := most) (by omega) (by omega)
  obtain ⟨n, rfl⟩ := Int.eq_ofNat_of_zero_le h11
  obtain ⟨names, a2, b2, e2, h21, h22, h23, s2⟩ := call_names s1 (n := 1 + n) (by omega)
  obtain ⟨q3, a3, b3, e3, h31, h32, s3⟩ := call_draw s2 (n := pls) (by omega) (by omega)
  obtain ⟨k, rfl⟩ := Int.eq_ofNat_of_zero_le h31
  obtain ⟨first, a4, b4, e4, h41, s4⟩ := call_shufS s3 (xs := names) (by omega)
  simp only [List.set_cons_zero] at e1 e2 e3 e4 s4
  have hc : cutD [dS "ann", dS "bob", dS "cy", dS "dee"] none (some (1 + (k : Int))) = (PLY.take (1 + k)).map dS := by
    rw [show (1 + (k : Int)) = ((1 + k : Nat) : Int) by omega, cut_take (by show 1 + k ≤ 4; omega), List.map_take]
    rfl
  have hP : ∀ p ∈ PLY.take (1 + k), p ∈ PLY := fun p hp => List.mem_of_mem_take hp
  have hnd : (PLY.take (1 + k)).Nodup := PLY_nd.sublist (List.take_sublist _ _)
  obtain ⟨S5, e5, s5, rs, rfl, st5, k5, p5⟩ := forL_ix (Γ := [some (.r 0), some (.p (dI most)), some (.p (dI pls)), some (.p (dLs names)), some (.p (dLs (PLY.take (1 + k)))), some (.p (dLs first)), some (.r 1), none, none, none, none]) (mg := mgN 7) (wp := [7, 8])
    (b := (seqM (asgM 8 (callM m__law_draw [(varM 0), (conM (.int 4))])) (setD (varM 6) (varM 7) (opM pIxL (lstM [(callM m__law_shuffled [(varM 0), (varM 3)]), (varM 5), (revM (varM 5)), (callM m__law_shuffled [(varM 0), (varM 3)])]) (varM 8)))))
    (I := fun j S => ∃ (s : List Dat) (rs : List (Str × List Str)), S = [.lst s, .dK (RL rs)] ∧ Strm [.lst s, .dK (RL rs)] 0 ∧ rs.map (·.1) = (PLY.take (1 + k)).take j ∧ ∀ p ∈ rs, p.2.Perm names) (ds := (PLY.take (1 + k)).map dS) (j0 := 0) (S := [.lst [dI a4, dI b4], .dK []])
    (fun j d hj S hI => by
      obtain ⟨s, rs, rfl, st, i1, i2⟩ := hI
      rw [Nat.zero_add] at i1 ⊢
      rw [List.getElem?_map] at hj
      obtain ⟨p, hjp, rfl⟩ := Option.map_eq_some_iff.1 hj
      have hjl := (List.getElem?_eq_some_iff.1 hjp).1
      obtain ⟨q, a5, b5, f1, g1, g2, t1⟩ := call_draw st (n := 4) (by decide) (by decide)
      obtain ⟨x1, a6, b6, f2, g3, t2⟩ := call_shufS t1 (xs := names) (by omega)
      obtain ⟨x2, a7, b7, f3, g4, t3⟩ := call_shufS t2 (xs := names) (by omega)
      simp only [List.set_cons_zero] at f1 f2 f3 t3
      obtain ⟨xs, f4, g5⟩ : ∃ xs : List Str, pIxL [.lst [dLs x1, dLs first, .lst (first.map dS).reverse, dLs x2], dI q] = .d (dLs xs) ∧ xs.Perm names := by
        rcases four g1 g2 with rfl | rfl | rfl | rfl
        · exact ⟨x1, pIxL_0, g3⟩
        · exact ⟨first, pIxL_1, h41⟩
        · exact ⟨first.reverse, by rw [pIxL_2, dLs, List.map_reverse], (List.reverse_perm _).trans h41⟩
        · exact ⟨x2, pIxL_3, g4⟩
      have hk : (Sum.inr p : Key) ∉ (RL rs).map (·.1) := by
        rw [show (RL rs).map (·.1) = (rs.map (·.1)).map Sum.inr by rw [List.map_map, List.map_map]; rfl, i1]
        intro hm
        obtain ⟨p', hm, e⟩ := List.mem_map.1 hm
        cases e
        obtain ⟨i, hi⟩ := List.mem_iff_getElem?.1 hm
        rw [List.getElem?_take] at hi
        split at hi
        · rename_i hij
          have := (List.getElem?_inj hjl hnd).1 (hjp.trans hi.symm)
          omega
        · cases hi
      have f5 : putKD (RL rs) (Sum.inr p) (dLs xs) = RL (rs ++ [(p, xs)]) := by
        rw [putKD_new hk]
        simp [RL]
      have f6 : (RL rs).length < 100000 := by
        have := congrArg List.length i1
        rw [List.length_map, List.length_take, List.length_take] at this
        rw [List.length_map, this]
        show min j (min (1 + k) 4) < 100000
        omega
      refine ⟨_, rfl, [some (.r 0), some (.p (dI most)), some (.p (dI pls)), some (.p (dLs names)), some (.p (dLs (PLY.take (1 + k)))), some (.p (dLs first)), some (.r 1), some (.p (dS p)), some (.p (dI q)), none, none], [.lst [dI a7, dI b7], .dK (RL (rs ++ [(p, xs)]))], ?_, rfl, [dI a7, dI b7], rs ++ [(p, xs)], rfl, ?_, ?_, ?_⟩
      · simp [f1, f2, f3, f4, sdF_dK f6, f5]
      · obtain ⟨x, y, z, w⟩ := t3
        cases z
        exact ⟨_, _, rfl, w⟩
      · rw [List.map_append, i1, List.take_add_one, hjp]
        rfl
      · intro p' hp'
        rcases List.mem_append.1 hp' with h | h
        · exact i2 p' h
        · rw [List.mem_singleton.1 h]
          exact g5) ⟨_, [], rfl, ⟨_, _, rfl, (by obtain ⟨_, _, z, w⟩ := s4; cases z; exact w)⟩, by simp, fun _ h => (List.not_mem_nil h).elim⟩
  rw [Nat.zero_add, List.length_map, List.take_length] at k5
  obtain ⟨a5, b5, z5, w5⟩ := st5
  cases z5
  obtain ⟨q6, a6, b6, e6, h61, h62, s6⟩ := call_draw (i := 0) (S := [.lst [dI a5, dI b5], .dK (RL rs)]) ⟨_, _, rfl, w5⟩ (n := (names.length : Nat) + 1) (by omega) (by omega)
  obtain ⟨m, rfl⟩ := Int.eq_ofNat_of_zero_le h61
  simp only [List.set_cons_zero] at e6 s6
  have hne : (PLY.take (1 + k)).map dS ≠ [] := by
    intro e
    have := congrArg List.length e
    rw [List.length_map, List.length_take] at this
    change min (1 + k) 4 = 0 at this
    omega
  obtain ⟨es, S7, e7, h71, h72, s7, rfl, st7⟩ := lcL_inv (vs := [10]) (mg := mgN 10) (me := callM m__law_choose [varM 0, varM 4]) (Γ := [some (.r 0), some (.p (dI most)), some (.p (dI pls)), some (.p (dLs names)), some (.p (dLs (PLY.take (1 + k)))), some (.p (dLs first)), some (.r 1), none, none, none, none])
    (xs := List.range m) (R := fun i : Nat => dI (0 + (i : Int))) (S := [.lst [dI a6, dI b6], .dK (RL rs)]) (I := fun S => ∃ s : List Dat, S = [.lst s, .dK (RL rs)] ∧ Strm [.lst s, .dK (RL rs)] 0) (E := fun e => ∃ y, e = dS y ∧ y ∈ PLY.take (1 + k))
    (fun i hi S hI => by
      obtain ⟨s, rfl, st⟩ := hI
      obtain ⟨d, a8, b8, f1, g1, t1⟩ := call_choose st hne (by rw [List.length_map, List.length_take]; show min (1 + k) 4 ≤ 100000; omega)
      simp only [List.set_cons_zero] at f1 t1
      refine ⟨_, d, [.lst [dI a8, dI b8], .dK (RL rs)], rfl, by simp [f1], ?_, _, rfl, t1⟩
      obtain ⟨y, hy, rfl⟩ := List.mem_map.1 g1
      exact ⟨y, rfl, hy⟩) ⟨_, rfl, s6⟩
  obtain ⟨ts, rfl, h73⟩ := strs_of h72
  obtain ⟨a7, b7, z7, w7⟩ := st7
  cases z7
  have hnm : RkOk names := ⟨h23, h22, by omega⟩
  have hrne : rs ≠ [] := by
    intro e
    rw [e] at k5
    exact hne (by rw [← k5]; rfl)
  have hkm : ∀ p ∈ rs, p.1 ∈ PLY := fun p hp => hP _ (by rw [← k5]; exact List.mem_map.2 ⟨p, hp, rfl⟩)
  have hro : RsOk' rs := ⟨hrne, fun p hp => PLY_nms _ (hkm p hp), by rw [k5]; exact hnd, by rw [k5]; exact PLY_pw.sublist (List.take_sublist _ _), fun p hp => hnm.perm (p5 p hp), fun p hp q hq => (p5 p hp).trans (p5 q hq).symm, by
    have := congrArg List.length k5
    rw [List.length_map, List.length_take] at this
    omega⟩
  have hal : (alt rs).length = 1 + n := by
    obtain ⟨p, r, e⟩ := hro.alt_mem
    have := (p5 (p, alt rs) (by rw [e]; exact List.mem_cons_self)).length_eq
    rw [← h21]
    exact this
  have hlt : ts.length ≤ (alt rs).length := by
    rw [List.length_map, List.length_range] at h71
    omega
  refine ⟨rs, ts, a7, b7, ?_, ⟨⟨hro, hlt, fun t ht => by rw [k5]; exact h73 t ht⟩, by omega, by omega, 1 + k, k5⟩, w7⟩
  unfold m__law_drawn
  have r1 : ((List.range m).map fun i : Nat => dI (0 + (i : Int))) = rgD 0 m := rfl
  rw [r1] at e7
  have e2' : callD m__law_names [.r 0, .p (dI (1 + (n : Int)))] [.lst [dI a1, dI b1]] = .n (.lst (names.map dS)) [.lst [dI a2, dI b2]] := e2
  have lk : lcK (mgN 10) [10] yesT (callM m__law_choose [varM 0, varM 4]) [some (.r 0), some (.p (dI most)), some (.p (dI pls)), some (.p (dLs names)), some (.p (dLs (PLY.take (1 + k)))), some (.p (dLs first)), some (.r 1), none, none, none, none] (.ok (rgD 0 m) [.lst [dI a6, dI b6], .dK (RL rs)]) = .n (.lst (ts.map dS)) [.lst [dI a7, dI b7], .dK (RL rs)] := by
    rw [lcK_ok (by rw [rgD_len]; omega), e7]
    rfl
  simp [-List.map_map, -List.map_take, e1, e2', e3, e4, hc, e5, e6, fRng1_int (show (-100000 : Int) ≤ (m : Nat) by omega) (show ((m : Nat) : Int) ≤ 100000 by omega), lk]
theorem call_drawn {S : Store} {i : Nat} {most pls : Nat} (h : Strm S i) (hm : 1 ≤ most) (hm2 : most ≤ 26) (hp : 1 ≤ pls) (hp2 : pls ≤ 4) : ∃ (rs : List (Str × List Str)) (ts : List Str) (a b : Int), callD m__law_drawn [.r i, .p (dI most), .p (dI pls)] S = .n (.lst [.dK (RL rs), dLs ts]) (S.set i (.lst [dI a, dI b])) ∧ DrOk most rs ts ∧ Strm (S.set i (.lst [dI a, dI b])) i := by
  have h' := h
  obtain ⟨a, b, hS, ha, hb, hb2⟩ := h
  obtain ⟨rs, ts, a', b', e, h2, h3, h4, h5⟩ := drawn_ok ha hb hb2 hm hm2 hp hp2
  exact ⟨rs, ts, a', b', by rw [callD_rpp hS rfl, e, back1_lst rfl], h2, h'.put h3 h4 h5⟩
theorem pairsD_map {rs : List (Str × List Str)} : pairsD (rs.map fun p => Dat.tup [dS p.1, Rk p.2]) = some (RD rs) := by
  induction rs with
  | nil => rfl
  | cons p rs ih =>
    show (match keyOf (dS p.1) with | some key => (match pairsD (rs.map fun p : Str × List Str => Dat.tup [dS p.1, Rk p.2]) with | some kvs => some ((key, Rk p.2) :: kvs) | none => none) | none => none) = _
    rw [ih]
    rfl
theorem pDictP_RD {rs : List (Str × List Str)} (h : (rs.map (·.1)).Nodup) : pDictP [.lst (rs.map fun p => .tup [dS p.1, Rk p.2])] = .n (.dK (RD rs)) := by
  unfold pDictP
  dsimp only
  rw [pairsD_map]
  dsimp only
  rw [mkD_nodup (by rw [RD_keys]; exact List.Pairwise.map _ (fun a b h e => h (by cases e; rfl)) h)]
theorem lookK_RL {rs : List (Str × List Str)} {p : Str} (h : p ∈ rs.map (·.1)) : lookK (RL rs) (Sum.inr p) = some (dLs (look rs p)) := by
  obtain ⟨xs, _, h2, h3⟩ := look_mem h
  rw [lookK_map (f := dLs), h3, h2]
  rfl
theorem fKeys_RL {rs : List (Str × List Str)} : (RL rs).map (fun p => kD p.1) = rs.map fun p => dS p.1 := by
  rw [List.map_map]
  rfl
theorem made_ok {S : Store} {rs : List (Str × List Str)} {ts : List Str} (h : GOk rs ts) : callD m__law_made [.p (.lst [.dK (RL rs), dLs ts])] S = .n (GmC rs ts) S := by
  rw [callD_1]
  unfold m__law_made
  have hl := h.ro.le
  have l1 : ∀ Γ, Γ = [some (Val.p (.lst [.dK (RL rs), dLs ts])), some (Val.p (.dK (RL rs))), some (Val.p (dLs ts)), none] → lcL (mgN 3) [3] yesT (tupM [(varM 3), (makeM "Ranking" m_Ranking___init__ [(dgetM (varM 1) (varM 3))])]) Γ (rs.map fun p : Str × List Str => dS p.1) [] = some (rs.map fun p : Str × List Str => Dat.tup [dS p.1, Rk p.2], []) := by
    intro Γ hΓ
    subst hΓ
    rw [lcL_map (f := fun p : Str × List Str => Dat.tup [dS p.1, Rk p.2]) (fun p _ => rfl) (fun p hp => by
      have h1 := lookK_RL (List.mem_map.2 ⟨p, hp, rfl⟩ : p.1 ∈ rs.map (·.1))
      have h2 := fun S => rk_init (S := S) (h.ro.rk p hp)
      rw [look_eq h.ro.nd hp] at h1
      simp [h1, h2])]
  have h3 := fun S => g_make (S := S) h
  have h4 := fun S => tn_init (S := S) h.t_nms h.t_le
  simp [-List.map_map, fKeys_RL, lcK_ok (show (rs.map fun p => dS p.1).length ≤ 100000 by rw [List.length_map]; omega), l1 _ rfl, pDictP_RD h.ro.nd, h3, h4]
theorem cut_takeN {ds : List Dat} {i : Nat} : cutD ds none (some (i : Int)) = ds.take i := by
  unfold cutD
  rw [HT.sIx_none, HT.sIx_nat, List.drop_zero, Nat.sub_zero, ← List.take_eq_take_min]
theorem cut_dropN {ds : List Dat} {i : Nat} : cutD ds (some (i : Int)) none = ds.drop i := by
  unfold cutD
  rw [HT.sIx_none, HT.sIx_nat]
  by_cases h : i ≤ ds.length
  · rw [Nat.min_eq_left h, List.take_of_length_le (by rw [List.length_drop]; omega)]
  · rw [Nat.min_eq_right (by omega), List.drop_length, List.drop_of_length_le (by omega), List.take_nil]

/-! ### long games -/
theorem pairsM_nil {Γ : MEnv} {S : Store} : pairsM [] Γ S = some ([], S) := rfl
theorem pairsM_cons {mk mv : ME} {ps : List (ME × ME)} {Γ : MEnv} {S S1 S2 S3 : Store} {k : Key} {kd d : Dat} {kvs : List (Key × Dat)} (h1 : (mk Γ S).pure = .d kd S1) (hk : keyOf kd = some k) (h2 : (mv Γ S1).pure = .d d S2) (h3 : pairsM ps Γ S2 = some (kvs, S3)) : pairsM ((mk, mv) :: ps) Γ S = some ((k, d) :: kvs, S3) := by
  unfold pairsM
  rw [h1]
  dsimp only
  rw [hk]
  dsimp only
  rw [h2]
  dsimp only
  rw [h3]
def LoN (r : DR) : Prop := ∃ (rs : List (Str × List Str)) (ts : List Str) (a b : Int), r = .new (.lst [.dK (RL rs), dLs ts]) [.lst [dI a, dI b]] ∧ (GOk rs ts ∧ (alt rs).length = 30 ∧ ∃ z : Nat, rs.map (·.1) = (["ann", "bob", "cy"] : List Str) ∧ z = 0) ∧ 0 ≤ a ∧ 0 ≤ b ∧ b < 2147483647
/-! ### games without alternatives -/
theorem PL_look {xs : List Str} {z : Str} : (lookK (PL xs) (Sum.inr z)).isSome = decide (z ∈ xs) := by
  unfold lookK
  rw [Option.isSome_map]
  cases e : (PL xs).find? fun kv => decide (kv.1 = (Sum.inr z : Key)) with
  | none =>
    rw [decide_eq_false]
    · rfl
    · intro h
      have h2 : (Sum.inr z : Key) ∈ (PL xs).map (·.1) := by rw [PL_keys]; exact List.mem_map.2 ⟨z, h, rfl⟩
      obtain ⟨p, hp, hk⟩ := List.mem_map.1 h2
      have := List.find?_eq_none.1 e p hp
      simp [hk] at this
  | some p =>
    rw [decide_eq_true]
    · rfl
    · have h1 := List.mem_of_find?_eq_some e
      have h2 := of_decide_eq_true (List.find?_some (p := fun kv : Key × Dat => decide (kv.1 = (Sum.inr z : Key))) e)
      have h3 : (Sum.inr z : Key) ∈ (PL xs).map (·.1) := List.mem_map.2 ⟨p, h1, h2⟩
      rw [PL_keys] at h3
      obtain ⟨y, hy, e⟩ := List.mem_map.1 h3
      cases e
      exact hy
theorem pRep_l {ds : List Dat} {n : Nat} (h1 : n ≤ 1000) (h2 : ds.length * n ≤ 100000) : pRep [.lst ds, dI n] = .n (.lst (List.replicate n ds).flatten) := by
  unfold pRep
  dsimp only
  rw [decide_eq_true (show (n : Int).natAbs < 2 ^ 62 by omega), Int.toNat_natCast, decide_eq_true h2]
  rfl
/-! ### playing -/
theorem cut_tail {us ts : List Str} {t : Str} (hu : us = t :: ts) : cutD (us.map dS) (some 1) none = ts.map dS := by
  subst hu
  rw [show (1 : Int) = ((1 : Nat) : Int) from rfl, cut_dropN]
  rfl
theorem tn_tail {S : Store} {rs : List (Str × List Str)} {ts us : List Str} {t : Str} (h : GOk rs us) (hu : us = t :: ts) : makeD "Turns" m_Turns___init__ [.p (.lst (ts.map dS))] S = .n (TnC ts) S := tn_init (h.tl_ hu).t_nms (h.tl_ hu).t_le
theorem len_ne {us ts : List Str} {t : Str} (hu : us = t :: ts) : ¬ ((us.length : Nat) : Int) = 0 := by rw [hu, List.length_cons]; omega
theorem len_ne' {us ts : List Str} {t : Str} (hu : us = t :: ts) : ¬ us = [] := by rw [hu]; simp
theorem Sub.aftr {rs : List (Str × List Str)} {x : Str} {ts : List Str} : Sub rs (Toy.aftr rs x ts) := Sub.all.rem.bk
abbrev ReD (f : Str → List Str) (xs : List Str) : List (Key × Dat) := xs.map fun x => (Sum.inr x, Com (f x))
/-! ### rankings: what is raised; equality; places -/
theorem is_num_no {S : Store} {d : Dat} {a b : Int} (h : pIsi [d, .v (.ty "int")] = .d (dB false) ∨ (pIsi [d, .v (.ty "int")] = .d (dB true) ∧ pIsi [d, .v (.ty "bool")] = .d (dB true))) : callD m_is_number [.p d, .p (dI a), .p (dI b)] S = .v (.p (dB false)) S := by
  rw [callD_3]
  unfold m_is_number
  rcases h with h | ⟨h, h2⟩
  · simp [h]
  · simp [h, h2]
theorem is_nm_odd {S : Store} {d : Dat} (h : pIsi [d, .v (.ty "str")] = .d (dB false)) : callD m_is_name [.p d] S = .v (.p (dB false)) S := by
  rw [callD_1]
  unfold m_is_name
  simp [h]
theorem rk_getN {S : Store} {xs : List Str} {d : Dat} (h : ∀ S, callD m_is_number [.p d, .p (dI 0), .p (dI ((xs.length : Nat) - 1))] S = .v (.p (dB false)) S) : callD m_Ranking___getitem__ [.p (Rk xs), .p d] S = .ex ⟨"NoPlace", some [("number", d)]⟩ S := by
  rw [callD_2]
  unfold m_Ranking___getitem__
  simp [h]
theorem PL_at {xs : List Str} {z : Str} (h : xs.Nodup) {i : Nat} (hi : xs[i]? = some z) : lookK (PL xs) (Sum.inr z) = some (dI (i : Nat)) := by
  obtain ⟨hl, e⟩ := List.getElem?_eq_some_iff.1 hi
  have hp := PL_look (xs := xs) (z := z)
  rw [decide_eq_true (List.mem_of_getElem? hi)] at hp
  obtain ⟨d, hd⟩ := Option.isSome_iff_exists.1 hp
  rw [hd]
  unfold lookK at hd
  obtain ⟨p, hf, rfl⟩ := Option.map_eq_some_iff.1 hd
  have h1 := List.mem_of_find?_eq_some hf
  have h2 := of_decide_eq_true (List.find?_some (p := fun kv : Key × Dat => decide (kv.1 = (Sum.inr z : Key))) hf)
  obtain ⟨j, hj, rfl⟩ := List.mem_map.1 h1
  have hj' := List.mem_range.1 hj
  have h3 : xs.getD j Str.empty = z := by injection h2
  rw [List.getD_eq_getElem?_getD, List.getElem?_eq_getElem hj', Option.getD_some, ← e] at h3
  have : j = i := by
    rcases Nat.lt_trichotomy j i with q | q | q
    · exact absurd h3 (List.pairwise_iff_getElem.1 h j i hj' hl q)
    · exact q
    · exact absurd h3.symm (List.pairwise_iff_getElem.1 h i j hl hj' q)
  rw [this]
theorem rep_two {k c a b : Nat} (h : List.replicate k c = [a, b]) : a = b := by
  have h1 : a ∈ List.replicate k c := by rw [h]; simp
  have h2 : b ∈ List.replicate k c := by rw [h]; simp
  rw [List.eq_of_mem_replicate h1, List.eq_of_mem_replicate h2]
theorem nm_two {q s t : Int} {i a b : Nat} (hi : i < 26) (h : nm q s t i = ⟨#[a, b]⟩) : a = b := by
  unfold nm sfx at h
  rw [if_pos hi, List.append_nil] at h
  injection h with h
  exact rep_two (k := (1 + t * ((i : Int) % 2)).toNat) (c := 97 + ((q + s * (i : Int)) % 26).toNat) (by
    have := congrArg Array.toList h
    simpa using this)
theorem nm_xy {q s t : Int} {n : Nat} (hn : n ≤ 26) : ("xy" : Str) ∉ (List.range n).map (nm q s t) := by
  intro h
  obtain ⟨i, hi, e⟩ := List.mem_map.1 h
  have := nm_two (a := 120) (b := 121) (by have := List.mem_range.1 hi; omega) (e.trans (by decide +kernel))
  omega
theorem nm_yx {q s t : Int} {n : Nat} (hn : n ≤ 26) : ("yx" : Str) ∉ (List.range n).map (nm q s t) := by
  intro h
  obtain ⟨i, hi, e⟩ := List.mem_map.1 h
  have := nm_two (a := 121) (b := 120) (by have := List.mem_range.1 hi; omega) (e.trans (by decide +kernel))
  omega

/-! ### the account -/
theorem p_acc {S : Store} {rs : List (Str × List Str)} {ts : List Str} (h : GOk rs ts) : callD m_account [.p (Gm rs ts)] S = .n (.dK (AC (bkS rs ts (dist (alt rs))))) S := by
  rw [callD_1]
  unfold m_account
  have ho := h.ro
  have hS : Sub rs (dist (alt rs)) := Sub.all
  have hl : ts.length ≤ (dist (alt rs)).length := by rw [dist_nd_len ho.alt_ok.nd]; exact h.tl
  have hk := bkS_len ho hS h.tm hl
  have hk2 : (bkS rs ts (dist (alt rs))).length = ts.length := by
    have := congrArg List.length hk
    rw [List.length_map, List.length_reverse] at this
    exact this
  have ht := h.t_le
  have hnd := bkS_nodup (rs := rs) (A := dist (alt rs)) (ts := ts)
  have h2 := fun S => p_pass (S := S) h
  generalize bkS rs ts (dist (alt rs)) = qs at *
  have hi : ∀ L : List Str, L.Nodup → (L.map (Sum.inr : Str → Key)).Nodup := fun L hL => List.Pairwise.map _ (fun a b h e => h (by cases e; rfl)) hL
  have d1 : ∀ Γ, Γ = [some (Val.p (Gm rs ts)), none, none, none] → dcL (mgT [mgN 2, mgN 3]) [2, 3] yesT (varM 3) (varM 2) Γ (stD qs) [] = some (qs.map fun q => (Sum.inr q.2, dS q.1), []) := by
    intro Γ hΓ
    subst hΓ
    exact dcL_map (R := fun q : Str × Str => .tup [dS q.1, dS q.2]) (kd := fun q => dS q.2) (k := fun q => Sum.inr q.2) (f := fun q => dS q.1) (fun q _ => rfl) (fun q _ => by simp) (fun q _ => rfl) (fun q _ => by simp)
  have k1 : (qs.map fun q : Str × Str => ((Sum.inr q.2 : Key), dS q.1)).map (·.1) = (qs.map (·.2)).map Sum.inr := by rw [List.map_map, List.map_map]; rfl
  have m1 : mkD (qs.map fun q : Str × Str => ((Sum.inr q.2 : Key), dS q.1)) = qs.map fun q => (Sum.inr q.2, dS q.1) := mkD_nodup (by rw [k1]; exact hi _ hnd)
  have s1 := pSortD_s k1 (by rw [List.length_map]; omega)
  have hsl : (srt (qs.map (·.2))).length = qs.length := by rw [srt_len, List.length_map]
  have lk : ∀ x ∈ accL qs, lookK (qs.map fun q : Str × Str => ((Sum.inr q.2 : Key), dS q.1)) (Sum.inr x) = some (dS (own qs x)) := by
    intro x hx
    unfold accL at hx
    rw [srt_mem] at hx
    obtain ⟨q, h1, h2, h3, h4⟩ := own_mem hx
    have := lookK_map (rs := qs.map fun q => (q.2, q.1)) (f := dS) (p := x)
    rw [List.map_map, List.find?_map] at this
    rw [show (qs.map fun q : Str × Str => ((Sum.inr q.2 : Key), dS q.1)) = List.map ((fun q : Str × Str => ((Sum.inr q.1 : Key), dS q.2)) ∘ fun q => (q.2, q.1)) qs from rfl, this, show ((fun q : Str × Str => decide (q.1 = x)) ∘ fun q : Str × Str => (q.2, q.1)) = fun q => decide (q.2 = x) from rfl, h4, h3]
    rfl
  have d2 : ∀ Γ, Γ = [some (Val.p (Gm rs ts)), some (Val.p (.dK (qs.map fun q => (Sum.inr q.2, dS q.1)))), none, none] → dcL (mgN 3) [3] yesT (varM 3) (dgetM (varM 1) (varM 3)) Γ ((srt (qs.map (·.2))).map dS) [] = some (AC qs, []) := by
    intro Γ hΓ
    subst hΓ
    exact dcL_map (xs := accL qs) (R := dS) (kd := dS) (k := Sum.inr) (f := fun x => dS (own qs x)) (fun x _ => rfl) (fun x _ => by simp) (fun x _ => rfl) (fun x hx => by simp [-List.map_map, lk x hx])
  have m2 : mkD (AC qs) = AC qs := mkD_nodup (by
    rw [show (AC qs).map (·.1) = (accL qs).map Sum.inr by rw [List.map_map]; rfl]
    exact hi _ ((srt_perm _).nodup_iff.2 hnd))
  simp [-List.map_map, h2, dcK_ok (show (stD qs).length ≤ 100000 by rw [List.length_map]; omega), d1 _ rfl, m1, s1]
  rw [dcK_ok (by rw [List.length_map, hsl]; omega), d2 _ rfl]
  simp [-List.map_map, m2]

end Toy
end

section
set_option maxRecDepth 100000
set_option maxHeartbeats 4000000
namespace Toy
open PySem L2 Dm Mr
def RaN (z : Str) (xs : List Str) (r : DR) : Prop := ∃ (ys : List Str) (a b : Int), r = .new (.lst (ys.map dS)) [.lst [dI a, dI b]] ∧ Rais z xs ys ∧ 0 ≤ a ∧ 0 ≤ b ∧ b < 2147483647
theorem raised_ok {a b : Int} {xs : List Str} {z : Str} (ha : 0 ≤ a) (hb : 0 ≤ b) (hb2 : b < 2147483647) (h : RkOk xs) (hz : z ∈ xs) : RaN z xs (m__law_raised [.r 0, .p (dLs xs), .p (dS z)] [.lst [dI a, dI b]]) := by
  have s0 : Strm [.lst [dI a, dI b]] 0 := ⟨a, b, rfl, ha, hb, hb2⟩
  have hl := h.le
  obtain ⟨i, hi, e⟩ := List.getElem_of_mem hz
  have hi' : xs[i]? = some z := by rw [List.getElem?_eq_getElem hi, e]
  obtain ⟨q, a1, b1, e1, h11, h12, s1⟩ := call_draw s0 (n := (i : Int) + 1) (by omega) (by omega)
  simp only [List.set_cons_zero] at e1 s1
  obtain ⟨_, _, w, h41, h42, h43⟩ := s1
  cases w
  have hx := idxP_s h.nd hi'
  obtain ⟨k, rfl⟩ : ∃ k : Nat, q = k := ⟨q.toNat, by omega⟩
  have hk : k ≤ i := by omega
  have nz : isNm z = true := h.nm z hz
  have hf : lcL (mgN 5) [5] (tstM (opM pNe (varM 5) (varM 2))) (varM 5) [some (.r 0), some (.p (dLs xs)), some (.p (dS z)), some (.p (dI (k : Int))), none, none] (xs.map dS) [.lst [dI a1, dI b1]] = some ((rem xs z).map dS, [.lst [dI a1, dI b1]]) :=
    lc_filter (p := fun x => !decide (x = z)) (fun x hx => by simp [pEq_ss (isNm_ok (h.nm x hx)) (isNm_ok nz)]) (fun x _ => by simp)
  have e3 : (rem xs z) = xs.take i ++ xs.drop (i + 1) := by
    conv => lhs; rw [← List.take_append_drop i xs, List.drop_eq_getElem_cons hi, e]
    have h1 : z ∉ xs.take i := fun m => by
      obtain ⟨j, hj, ej⟩ := List.getElem_of_mem m
      rw [List.length_take] at hj
      rw [List.getElem_take] at ej
      have := List.pairwise_iff_getElem.1 h.nd j i (by omega) hi (by omega)
      exact this (ej.trans e.symm)
    have h2 : z ∉ xs.drop (i + 1) := fun m => by
      obtain ⟨j, hj, ej⟩ := List.getElem_of_mem m
      rw [List.length_drop] at hj
      rw [List.getElem_drop] at ej
      have := List.pairwise_iff_getElem.1 h.nd i (i + 1 + j) hi (by omega) (by omega)
      exact this (e.trans ej.symm)
    unfold rem
    rw [List.filter_append, List.filter_cons]
    simp only [decide_true, Bool.not_true, Bool.false_eq_true, if_false]
    have q1 := rem_self h1
    have q2 := rem_self h2
    unfold rem at q1 q2
    rw [q1, q2]
  have c1 : cutD ((rem xs z).map dS) none (some (k : Int)) = ((rem xs z).take k).map dS := by rw [cut_takeN, List.map_take]
  have c2 : cutD ((rem xs z).map dS) (some (k : Int)) none = ((rem xs z).drop k).map dS := by rw [cut_dropN, List.map_drop]
  have hrl : (rem xs z).length ≤ 30 := by unfold rem; have := List.length_filter_le (fun y => !decide (y = z)) xs; omega
  have p1 : pCat [.lst (((rem xs z).take k).map dS), .lst [dS z]] = .n (.lst (((rem xs z).take k).map dS ++ [dS z])) := pCat_l (by simp; omega)
  have p2 : pCat [.lst (((rem xs z).take k).map dS ++ [dS z]), .lst (((rem xs z).drop k).map dS)] = .n (.lst (((rem xs z).take k).map dS ++ [dS z] ++ ((rem xs z).drop k).map dS)) := pCat_l (by simp; omega)
  unfold m__law_raised
  simp [-List.map_take, -List.map_drop, p1, p2, hx, e1, lcK_ok (show (xs.map dS).length ≤ 100000 by rw [List.length_map]; omega), hf, c1, c2]
  refine ⟨(rem xs z).take k ++ z :: (rem xs z).drop k, a1, b1, by simp, ?_, h41, h42, h43⟩
  refine ⟨(xs.take i).take k, xs.drop (i + 1), (xs.take i).drop k, ?_, ?_⟩
  · rw [List.take_append_drop]
    conv => lhs; rw [← List.take_append_drop i xs, List.drop_eq_getElem_cons hi, e]
  · rw [e3, List.take_append_of_le_length (by rw [List.length_take]; omega), List.drop_append_of_le_length (by rw [List.length_take]; omega)]
theorem call_raised {S : Store} {i : Nat} {xs : List Str} {z : Str} (h : Strm S i) (hx : RkOk xs) (hz : z ∈ xs) : ∃ (ys : List Str) (a b : Int), callD m__law_raised [.r i, .p (dLs xs), .p (dS z)] S = .n (.lst (ys.map dS)) (S.set i (.lst [dI a, dI b])) ∧ Rais z xs ys ∧ Strm (S.set i (.lst [dI a, dI b])) i := by
  have h' := h
  obtain ⟨a, b, hS, ha, hb, hb2⟩ := h
  obtain ⟨ys, a', b', e, h2, h3, h4, h5⟩ := raised_ok ha hb hb2 hx hz
  exact ⟨ys, a', b', by rw [callD_rpp hS rfl, e, back1_lst rfl], h2, h'.put h3 h4 h5⟩
theorem putKD_RL {rs : List (Str × List Str)} {p : Str} {ys : List Str} (hp : p ∈ rs.map (·.1)) : putKD (RL rs) (Sum.inr p) (dLs ys) = RL (setR rs p ys) := by
  unfold putKD setR
  obtain ⟨q, hq, rfl⟩ := List.mem_map.1 hp
  rw [if_pos (by
    rw [List.any_map]
    exact List.any_eq_true.2 ⟨q, hq, decide_eq_true rfl⟩), List.map_map]
  show _ = List.map _ (List.map _ rs)
  rw [List.map_map]
  refine List.map_congr_left fun r hr => ?_
  show (if (Sum.inr r.1 : Key) = Sum.inr q.1 then _ else _) = _
  by_cases e : r.1 = q.1
  · rw [if_pos (by rw [e])]
    show _ = (Sum.inr (if r.1 = q.1 then (q.1, ys) else r).1, dLs (if r.1 = q.1 then (q.1, ys) else r).2)
    rw [if_pos e]
    show ((Sum.inr r.1 : Key), dLs ys) = (Sum.inr q.1, dLs ys)
    rw [e]
  · rw [if_neg fun z => e (by injection z)]
    show _ = (Sum.inr (if r.1 = q.1 then (q.1, ys) else r).1, dLs (if r.1 = q.1 then (q.1, ys) else r).2)
    rw [if_neg e]
theorem RL_new {rs : List (Str × List Str)} {p : Str} {ys : List Str} (hp : p ∉ rs.map (·.1)) : putKD (RL rs) (Sum.inr p) (dLs ys) = RL (rs ++ [(p, ys)]) := by
  rw [putKD_new (by
    intro m
    rw [List.map_map] at m
    obtain ⟨q, hq, e⟩ := List.mem_map.1 m
    have e' : (Sum.inr q.1 : Key) = Sum.inr p := e
    injection e' with e'
    exact hp (List.mem_map.2 ⟨q, hq, e'⟩))]
  show _ = List.map _ (rs ++ [(p, ys)])
  rw [List.map_append]
  rfl
end Toy
end

section
set_option maxRecDepth 100000
set_option maxHeartbeats 4000000
namespace Toy
open PySem L2 Dm Mr
abbrev m_law_b1 : MS := (seqM (asgC 11 (callB pDictD [(opM pIxL (varM 4) (conM (.int 0)))])) (seqM (setD (varM 11) (varM 10) (callM m__law_raised [(varM 2), (dgetM (opM pIxL (varM 4) (conM (.int 0))) (varM 10)), (varM 8)])) (seqM (setD (varM 9) (varM 10) (dgetM (varM 11) (varM 10))) (seqM (asgM 12 (callM m__law_made [(lstM [(varM 11), (opM pIxL (varM 4) (conM (.int 1)))])])) (ifS (orT (tstM (eqO "Committee" m_Committee___eq__ true (callM m_outcome [(varM 12)]) (varM 6))) (tstM (opM (pEqK true) (callM m_account [(varM 12)]) (varM 7)))) (retM (conM (.bl false))) nilM)))))
abbrev m_law_b2 : MS := (seqM (asgC 9 dnewM) (seqM (forM (itX fKeys (opM pIxL (varM 4) (conM (.int 0)))) (mgN 10) [10, 11, 12] m_law_b1) (seqM (asgM 12 (callM m__law_made [(lstM [(varM 9), (opM pIxL (varM 4) (conM (.int 1)))])])) (ifS (orT (tstM (eqO "Committee" m_Committee___eq__ true (callM m_outcome [(varM 12)]) (varM 6))) (tstM (opM (pEqK true) (callM m_account [(varM 12)]) (varM 7)))) (retM (conM (.bl false))) nilM))))
abbrev m_law_b3 : MS := (seqM (asgM 4 (callM m__law_drawn [(varM 2), (conM (.int 9)), (conM (.int 4))])) (seqM (asgM 5 (callM m__law_made [(varM 4)])) (seqM (parXM 6 7 (callM m_outcome [(varM 5)]) (callM m_account [(varM 5)])) (forM (itX fList (propM "Committee" m_Committee_members (varM 6))) (mgN 8) [8, 9, 10, 11, 12] m_law_b2))))
abbrev m_law_b4 : MS := (seqM (asgC 2 (callM m__law_stream [(varM 0), (varM 1)])) (forM (itA fRng1 [(conM (.int 3))]) (mgN 3) [3, 4, 5, 6, 7, 8, 9, 10, 11, 12] m_law_b3))
theorem m_law_eq : m_law = (defM 13 1 (seqM (forM (itA fRng1 [(callB pMax [(conM (.int 1)), (callB pMin [(conM (.int 8)), (callB pLen [(varM 0)])])])]) (mgN 1) [1, 2, 3, 4, 5, 6, 7, 8, 9, 10, 11, 12] m_law_b4) (retM (conM (.bl true))))) := rfl
theorem own_nm {rs : List (Str × List Str)} {ts A : List Str} (h : GOk rs ts) (x : Str) (hx : x ∈ accL (bkS rs ts A)) : okD (dS (own (bkS rs ts A) x)) = true := by
  unfold accL at hx
  rw [srt_mem] at hx
  obtain ⟨q, h1, _, h3, _⟩ := own_mem hx
  rw [h3]
  exact okD_s (h.t_nms q.1 (bkS_mem h1).2)
theorem Upp.set {z : Str} {rs : List (Str × List Str)} {p : Str} {ys : List Str} (hp : p ∈ rs.map (·.1)) (h : Rais z (look rs p) ys) : Upp z rs (setR rs p ys) := ⟨setR_keys, fun k hk => by
  rw [setR_look hp]
  by_cases e : k = p
  · subst e
    rw [if_pos rfl]
    exact .inr h
  · rw [if_neg e]
    exact .inl rfl⟩
/-- the outcome and the account are the same -/
theorem same_ok {Γ : MEnv} {S : Store} {rs rs' : List (Str × List Str)} {ts : List Str} {z : Str} (h : GOk rs ts) (u : Upp z rs rs') (hz : z ∈ outc rs ts) (e12 : Γ[12]? = some (some (.p (Gm rs' ts)))) (e6 : Γ[6]? = some (some (.p (Com (outc rs ts))))) (e7 : Γ[7]? = some (some (.p (.dK (AC (bkS rs ts (dist (alt rs)))))))) :
    (orT (tstM (eqO "Committee" m_Committee___eq__ true (callM m_outcome [(varM 12)]) (varM 6))) (tstM (opM (pEqK true) (callM m_account [(varM 12)]) (varM 7)))) Γ S = .ok false S := by
  have hg := u.gok h
  obtain ⟨o1, o2⟩ := u.outc h.ro h.tm hz
  have f1 := fun S => p_out (S := S) hg
  have f2 := fun S => p_acc (S := S) hg
  rw [o1] at f1
  rw [o2] at f2
  have hn : Nms (outc rs ts) := (Sub.all.bk).nms h.ro
  have f3 := fun S => eq_ok (S := S) hn hn
  have f4 := pEqK_self (neg := true) (L := accL (bkS rs ts (dist (alt rs)))) (f := fun x => dS (own (bkS rs ts (dist (alt rs))) x)) (own_nm h) fun x hx => by
    show (okD _ && true) = true
    rw [own_nm h x hx]
    rfl
  simp [-List.map_map, e12, e6, e7, f1, f2, f3, f4]
theorem law_true (ns : List Int) (hl : ns.length ≤ 63) : m_law [.p (.scr ns)] [] = .ret (.p (dB true)) [] := by
  rw [m_law_eq, defM_1]
  show fin 0 (seqM _ _ [some (.p (.scr ns)), none, none, none, none, none, none, none, none, none, none, none, none] []) = _
  refine law_fin (ok_for (I := fun _ => True) (ds := rgD 0 (max 1 (min 8 (ns.length : Int))).toNat) (S1 := []) (by
    simp [fRng1_int (show (-100000 : Int) ≤ max 1 (min 8 (ns.length : Int)) by omega) (show max 1 (min 8 (ns.length : Int)) ≤ 100000 by omega)]) trivial (fun d hd S _ => ⟨_, rfl, ?_⟩) fun _ _ => trivial)
  obtain ⟨i, hi, rfl⟩ := rng0 hd
  simp only [wipe_cons, wipe_nil, List.set_cons_succ, List.set_cons_zero]
  obtain ⟨a, b, e1, h1⟩ := call_stream (S := S) (ns := ns) (k := (i : Int)) (by omega) (by omega)
  unfold m_law_b4
  refine ok_seq (ok_asgC (c := .lst [dI a, dI b]) (S1 := S) (by simp [e1]) ?_)
  simp only [List.set_cons_succ, List.set_cons_zero]
  refine ok_for (I := fun S' => Strm S' S.length) (ds := rgD 0 3) (S1 := S ++ [.lst [dI a, dI b]]) (by simp [fRng1_int (show (-100000 : Int) ≤ 3 by decide) (show (3 : Int) ≤ 100000 by decide)]) ⟨a, b, by simp, h1⟩ (fun d hd S2 st => ⟨_, rfl, ?_⟩) fun S2 _ => ⟨by simp, trivial⟩
  obtain ⟨j, hj, rfl⟩ := rng0 hd
  simp only [wipe_cons, wipe_nil, List.set_cons_succ, List.set_cons_zero]
  unfold m_law_b3
  obtain ⟨rs, ts, a2, b2, e2, D, st2⟩ := call_drawn (most := 9) (pls := 4) st (by decide) (by decide) (by decide) (by decide)
  have e2' : callD m__law_drawn [.r S.length, .p (dI 9), .p (dI 4)] S2 = .n (.lst [.dK (RL rs), dLs ts]) (S2.set S.length (.lst [dI a2, dI b2])) := e2
  clear e2
  have hg := D.g
  have ho := hg.ro
  have hrl : rs.length ≤ 60 := ho.le
  refine ok_seq (ok_asg (d := .lst [.dK (RL rs), dLs ts]) (S1 := S2.set S.length (.lst [dI a2, dI b2])) (by simp [-List.map_map, e2']) ?_)
  generalize hS3 : S2.set S.length (.lst [dI a2, dI b2]) = S3 at *
  simp only [List.set_cons_succ, List.set_cons_zero]
  have f1 := fun S => made_ok (S := S) hg
  refine ok_seq (ok_asg (d := Gm rs ts) (S1 := S3) (by simp [-List.map_map, f1]) ?_)
  simp only [List.set_cons_succ, List.set_cons_zero]
  have f2 := fun S => p_out (S := S) hg
  have f3 := fun S => p_acc (S := S) hg
  generalize hqs : bkS rs ts (dist (alt rs)) = qs at *
  refine ok_seq (ok_st (S1 := S3) (Γ1 := [some (.p (.scr ns)), some (.p (dI i)), some (.r S.length), some (.p (dI j)), some (.p (.lst [.dK (RL rs), dLs ts])), some (.p (Gm rs ts)), some (.p (Com (outc rs ts))), some (.p (.dK (AC qs))), none, none, none, none, none]) (by
    simp [-List.map_map, f2, f3]) ?_)
  have c1 := fun S => members_ok (S := S) (ms := outc rs ts)
  refine ok_for (I := fun S' => Strm S' S.length) (ds := (outc rs ts).map dS) (S1 := S3) (by simp [-List.map_map, c1]) st2 (fun d hd S4 st4 => ⟨_, rfl, ?_⟩) fun S4 st4 => ⟨by simp, st4⟩
  obtain ⟨z, hz, rfl⟩ := List.mem_map.1 hd
  simp only [wipe_cons, wipe_nil, List.set_cons_succ, List.set_cons_zero]
  have hza : z ∈ alt rs := dist_mem.1 (bk_sub hz)
  unfold m_law_b2
  refine ok_seq (ok_asgC (c := .dK []) (S1 := S4) (by simp) ?_)
  simp only [List.set_cons_succ, List.set_cons_zero]
  have hk : S.length < S4.length := by obtain ⟨_, _, h, _⟩ := st4; exact fp1 h
  refine ok_seq (ok_forN (I := fun n S' => Strm S' S.length ∧ ∃ r2 : List (Str × List Str), S'[S4.length]? = some (.dK (RL r2)) ∧ r2.map (·.1) = (rs.map (·.1)).take n ∧ ∀ q ∈ r2, Rais z (look rs q.1) q.2) (ds := rs.map fun p => dS p.1) (S1 := S4 ++ [.dK []])
    (by simp [-List.map_map, fKeys_RL]) ⟨by obtain ⟨x, y, h, w⟩ := st4; exact ⟨x, y, get_app1 h, w⟩, [], by simp, by simp, by simp⟩ (fun n d hd S5 hI => ⟨_, rfl, ?_⟩) fun S5 hI => ?_)
  · obtain ⟨st5, r2, hr1, hr2, hr3⟩ := hI
    obtain ⟨p, hp, rfl⟩ : ∃ p, rs[n]? = some p ∧ d = dS p.1 := by
      rw [List.getElem?_map] at hd
      cases e : rs[n]? with
      | none => rw [e] at hd; cases hd
      | some p => rw [e] at hd; exact ⟨p, rfl, (Option.some.inj hd).symm⟩
    have hpm : p ∈ rs := List.mem_of_getElem? hp
    have hpk : p.1 ∈ rs.map (·.1) := List.mem_map.2 ⟨p, hpm, rfl⟩
    simp only [wipe_cons, wipe_nil, List.set_cons_succ, List.set_cons_zero]
    unfold m_law_b1
    refine ok_seq (ok_asgC (c := .dK (RL rs)) (S1 := S5) (by simp [-List.map_map]) ?_)
    simp only [List.set_cons_succ, List.set_cons_zero]
    have hk5 : S.length < S5.length := by obtain ⟨_, _, h, _⟩ := st5; exact fp1 h
    have hk6 : S4.length < S5.length := fp1 hr1
    have hzl : z ∈ look rs p.1 := (ho.look_perm hpk).mem_iff.2 hza
    obtain ⟨ys, a3, b3, e3, hR, st6⟩ := call_raised (S := S5 ++ [.dK (RL rs)]) (i := S.length) (by obtain ⟨x, y, h, w⟩ := st5; exact ⟨x, y, get_app1 h, w⟩) (ho.look_ok hpk) hzl
    rw [List.set_append_left _ _ hk5] at e3 st6
    have hr1' : (S5.set S.length (.lst [dI a3, dI b3]))[S4.length]? = some (.dK (RL r2)) := by rw [List.getElem?_set_ne (by omega)]; exact hr1
    have hl5 : (S5.set S.length (.lst [dI a3, dI b3])).length = S5.length := List.length_set
    generalize hS6 : S5.set S.length (.lst [dI a3, dI b3]) = S6 at *
    have lk := lookK_RL (rs := rs) hpk
    have pk := putKD_RL (ys := ys) hpk
    refine ok_seq (ok_st (S1 := S6 ++ [.dK (RL (setR rs p.1 ys))]) (Γ1 := [some (.p (.scr ns)), some (.p (dI i)), some (.r S.length), some (.p (dI j)), some (.p (.lst [.dK (RL rs), dLs ts])), some (.p (Gm rs ts)), some (.p (Com (outc rs ts))), some (.p (.dK (AC qs))), some (.p (dS z)), some (.r S4.length), some (.p (dS p.1)), some (.r S5.length), none]) (by
      rw [← hl5]
      have hd : (RL rs).length < 100000 := by rw [List.length_map]; omega
      simp [-List.map_map, lk, hl5, e3]
      rw [← hl5, sdF_dK hd, pk, set_app]) ?_)
    have hu := Upp.set hpk hR
    have hks := setR_keys (rs := rs) (p := p.1) (ys := ys)
    have lk2 : lookK (RL (setR rs p.1 ys)) (Sum.inr p.1) = some (dLs ys) := by
      rw [lookK_RL (by rw [hks]; exact hpk), setR_look hpk, if_pos rfl]
    have hnew : p.1 ∉ r2.map (·.1) := by
      rw [hr2]
      intro m
      obtain ⟨k, hk, ek⟩ := List.getElem_of_mem m
      rw [List.length_take] at hk
      rw [List.getElem_take] at ek
      obtain ⟨hn, en⟩ := List.getElem?_eq_some_iff.1 hp
      have := List.pairwise_iff_getElem.1 ho.nd k n (by rw [List.length_map]; omega) (by rw [List.length_map]; exact hn) (by omega)
      exact this (by rw [ek, List.getElem_map, en])
    have r2l : r2.length ≤ 60 := by
      have := congrArg List.length hr2
      rw [List.length_map, List.length_take, List.length_map] at this
      omega
    have pk2 := RL_new (ys := ys) hnew
    have hk7 : S4.length < S6.length := by omega
    refine ok_seq (ok_st (S1 := (S6.set S4.length (.dK (RL (r2 ++ [(p.1, ys)])))) ++ [.dK (RL (setR rs p.1 ys))]) (Γ1 := [some (.p (.scr ns)), some (.p (dI i)), some (.r S.length), some (.p (dI j)), some (.p (.lst [.dK (RL rs), dLs ts])), some (.p (Gm rs ts)), some (.p (Com (outc rs ts))), some (.p (.dK (AC qs))), some (.p (dS z)), some (.r S4.length), some (.p (dS p.1)), some (.r S5.length), none]) (by
      have hd : (RL r2).length < 100000 := by rw [List.length_map]; omega
      have g1 : (S6 ++ [MCell.dK (RL (setR rs p.1 ys))])[S5.length]? = some (.dK (RL (setR rs p.1 ys))) := by rw [← hl5]; simp
      have g2 : (S6 ++ [MCell.dK (RL (setR rs p.1 ys))])[S4.length]? = some (.dK (RL r2)) := get_app1 hr1'
      simp [-List.map_map, -List.map_append, g1, lk2, g2]
      rw [sdF_dK hd, pk2, List.set_append_left _ _ hk7]) ?_)
    have st7 : Strm (S6.set S4.length (.dK (RL (r2 ++ [(p.1, ys)])))) S.length := by
      obtain ⟨x, y, h, w⟩ := st6
      rw [List.getElem?_append_left (by omega)] at h
      exact ⟨x, y, by rw [List.getElem?_set_ne (by omega)]; exact h, w⟩
    have hl7 : (S6.set S4.length (.dK (RL (r2 ++ [(p.1, ys)])))).length = S5.length := by rw [List.length_set, hl5]
    have hr7 : (S6.set S4.length (.dK (RL (r2 ++ [(p.1, ys)]))))[S4.length]? = some (.dK (RL (r2 ++ [(p.1, ys)]))) := List.getElem?_set_self hk7
    generalize hS7 : S6.set S4.length (.dK (RL (r2 ++ [(p.1, ys)]))) = S7 at *
    have f4 := fun S => made_ok (S := S) (hu.gok hg)
    refine ok_seq (ok_asg (d := Gm (setR rs p.1 ys) ts) (S1 := S7 ++ [.gone]) (by
      have g1 : (S7 ++ [MCell.dK (RL (setR rs p.1 ys))])[S5.length]? = some (.dK (RL (setR rs p.1 ys))) := by rw [← hl7]; simp
      simp [-List.map_map, g1, f4]
      rw [← hl7, set_app]) ?_)
    simp only [List.set_cons_succ, List.set_cons_zero]
    refine ok_guard (S1 := S7 ++ [.gone]) (same_ok hg hu hz rfl rfl (by rw [hqs]; rfl)) ⟨by simp, ?_, r2 ++ [(p.1, ys)], ?_, ?_, ?_⟩
    · obtain ⟨x, y, h, w⟩ := st7
      exact ⟨x, y, get_app1 h, w⟩
    · exact get_app1 hr7
    · rw [List.map_append, hr2, List.take_add_one, List.getElem?_map, hp]
      rfl
    · intro q hq
      rcases List.mem_append.1 hq with h | h
      · exact hr3 q h
      · rw [List.mem_singleton.1 h]
        exact hR
  · obtain ⟨st5, r2, hr1, hr2, hr3⟩ := hI
    simp only [wipe_cons, wipe_nil, List.set_cons_succ, List.set_cons_zero]
    rw [List.length_map, List.take_of_length_le (by rw [List.length_map]; omega)] at hr2
    have hu : Upp z rs r2 := ⟨hr2, fun p hp => by
      have hp2 : p ∈ r2.map (·.1) := by rw [hr2]; exact hp
      obtain ⟨xs, h1, h2, _⟩ := look_mem hp2
      rw [h2]
      exact .inr (hr3 _ h1)⟩
    have f4 := fun S => made_ok (S := S) (hu.gok hg)
    have hk5 : S.length < S5.length := by obtain ⟨_, _, h, _⟩ := st5; exact fp1 h
    refine ok_seq (ok_asg (d := Gm r2 ts) (S1 := S5.set S4.length .gone) (by
      simp [-List.map_map, hr1, f4]) ?_)
    simp only [List.set_cons_succ, List.set_cons_zero]
    refine ok_guard (S1 := S5.set S4.length .gone) (same_ok hg hu hz rfl rfl (by rw [hqs]; rfl)) ⟨by simp, ?_⟩
    obtain ⟨x, y, h, w⟩ := st5
    exact ⟨x, y, by rw [List.getElem?_set_ne (by omega)]; exact h, w⟩
end Toy
end

section
set_option maxRecDepth 100000
set_option maxHeartbeats 4000000
namespace Toy
open PySem L2 Dm Mr
theorem all_mk {l : PySem.W.OpenLaw} {w : World} {K : PySem.W.Frag} {h : Heap} {mg : Str → Option Value} {fa : Addr} (X : K.In h) (G : h.Ns mainGlobals mg) (hfa : mg "law" = some (.ref fa)) (hP : l.prog = PG)
    {c_Committee c_Game c_Ranking c_Turns c_InvalidCommittee c_InvalidGame c_InvalidRanking c_InvalidTurns c_NoPlace c_UnknownName i_NoPlace i_UnknownName a__law_stream a__law_draw a__law_names a__law_shuffled a__law_choose a__law_drawn a_is_name a_Committee___eq__ a_distinct a_are_names a_Committee___init__ a_Ranking_alternatives a_as_committee a_check_rankings a_Turns___len__ a_Game_first_ranking a_Ranking___len__ a_Turns_players a_Game_check_turns a_Game___init__ a_Turns___init__ a_Ranking___init__ a__law_made a_Committee___sub__ a_Game_alternatives a_Game_turns a_Committee_members a_Ranking___and__ a_is_number a_Ranking___getitem__ a_Ranking_worst a_Game_ranking_of a_backward_pass a_outcome a_account a__law_raised a_law b_Committee_members b_Game_alternatives b_Game_turns b_Ranking_alternatives b_Turns_players : Addr}
    {t_LETTERS : Nat}
    {t_MAX_LETTERS : Nat}
    {t_MAX_NAMES : Nat}
    {oc__law_stream kV__law_stream dc__law_stream pm__law_stream cd__law_stream ct__law_stream : Value}
    {od__law_stream an__law_stream : Option Addr}
    {sl__law_stream : Array (Option Value)}
    {oc__law_draw kV__law_draw dc__law_draw pm__law_draw cd__law_draw ct__law_draw : Value}
    {od__law_draw an__law_draw : Option Addr}
    {sl__law_draw : Array (Option Value)}
    {oc__law_names kV__law_names dc__law_names pm__law_names cd__law_names ct__law_names : Value}
    {od__law_names an__law_names : Option Addr}
    {sl__law_names : Array (Option Value)}
    {oc__law_shuffled kV__law_shuffled dc__law_shuffled pm__law_shuffled cd__law_shuffled ct__law_shuffled : Value}
    {od__law_shuffled an__law_shuffled : Option Addr}
    {sl__law_shuffled : Array (Option Value)}
    {oc__law_choose kV__law_choose dc__law_choose pm__law_choose cd__law_choose ct__law_choose : Value}
    {od__law_choose an__law_choose : Option Addr}
    {sl__law_choose : Array (Option Value)}
    {oc__law_drawn kV__law_drawn dc__law_drawn pm__law_drawn cd__law_drawn ct__law_drawn : Value}
    {od__law_drawn an__law_drawn : Option Addr}
    {sl__law_drawn : Array (Option Value)}
    {oc_is_name kV_is_name dc_is_name pm_is_name cd_is_name ct_is_name : Value}
    {od_is_name an_is_name : Option Addr}
    {sl_is_name : Array (Option Value)}
    {oc_Committee___eq__ kV_Committee___eq__ dc_Committee___eq__ pm_Committee___eq__ cd_Committee___eq__ ct_Committee___eq__ : Value}
    {od_Committee___eq__ an_Committee___eq__ : Option Addr}
    {sl_Committee___eq__ : Array (Option Value)}
    {oc_distinct kV_distinct dc_distinct pm_distinct cd_distinct ct_distinct : Value}
    {od_distinct an_distinct : Option Addr}
    {sl_distinct : Array (Option Value)}
    {oc_are_names kV_are_names dc_are_names pm_are_names cd_are_names ct_are_names : Value}
    {od_are_names an_are_names : Option Addr}
    {sl_are_names : Array (Option Value)}
    {oc_Committee___init__ kV_Committee___init__ dc_Committee___init__ pm_Committee___init__ cd_Committee___init__ ct_Committee___init__ : Value}
    {od_Committee___init__ an_Committee___init__ : Option Addr}
    {sl_Committee___init__ : Array (Option Value)}
    {rest_Ranking_alternatives : List Value}
    {oc_Ranking_alternatives kV_Ranking_alternatives dc_Ranking_alternatives pm_Ranking_alternatives cd_Ranking_alternatives ct_Ranking_alternatives : Value}
    {od_Ranking_alternatives an_Ranking_alternatives : Option Addr}
    {sl_Ranking_alternatives : Array (Option Value)}
    {oc_as_committee kV_as_committee dc_as_committee pm_as_committee cd_as_committee ct_as_committee : Value}
    {od_as_committee an_as_committee : Option Addr}
    {sl_as_committee : Array (Option Value)}
    {oc_check_rankings kV_check_rankings dc_check_rankings pm_check_rankings cd_check_rankings ct_check_rankings : Value}
    {od_check_rankings an_check_rankings : Option Addr}
    {sl_check_rankings : Array (Option Value)}
    {oc_Turns___len__ kV_Turns___len__ dc_Turns___len__ pm_Turns___len__ cd_Turns___len__ ct_Turns___len__ : Value}
    {od_Turns___len__ an_Turns___len__ : Option Addr}
    {sl_Turns___len__ : Array (Option Value)}
    {oc_Game_first_ranking kV_Game_first_ranking dc_Game_first_ranking pm_Game_first_ranking cd_Game_first_ranking ct_Game_first_ranking : Value}
    {od_Game_first_ranking an_Game_first_ranking : Option Addr}
    {sl_Game_first_ranking : Array (Option Value)}
    {oc_Ranking___len__ kV_Ranking___len__ dc_Ranking___len__ pm_Ranking___len__ cd_Ranking___len__ ct_Ranking___len__ : Value}
    {od_Ranking___len__ an_Ranking___len__ : Option Addr}
    {sl_Ranking___len__ : Array (Option Value)}
    {rest_Turns_players : List Value}
    {oc_Turns_players kV_Turns_players dc_Turns_players pm_Turns_players cd_Turns_players ct_Turns_players : Value}
    {od_Turns_players an_Turns_players : Option Addr}
    {sl_Turns_players : Array (Option Value)}
    {oc_Game_check_turns kV_Game_check_turns dc_Game_check_turns pm_Game_check_turns cd_Game_check_turns ct_Game_check_turns : Value}
    {od_Game_check_turns an_Game_check_turns : Option Addr}
    {sl_Game_check_turns : Array (Option Value)}
    {oc_Game___init__ kV_Game___init__ dc_Game___init__ pm_Game___init__ cd_Game___init__ ct_Game___init__ : Value}
    {od_Game___init__ an_Game___init__ : Option Addr}
    {sl_Game___init__ : Array (Option Value)}
    {oc_Turns___init__ kV_Turns___init__ dc_Turns___init__ pm_Turns___init__ cd_Turns___init__ ct_Turns___init__ : Value}
    {od_Turns___init__ an_Turns___init__ : Option Addr}
    {sl_Turns___init__ : Array (Option Value)}
    {oc_Ranking___init__ kV_Ranking___init__ dc_Ranking___init__ pm_Ranking___init__ cd_Ranking___init__ ct_Ranking___init__ : Value}
    {od_Ranking___init__ an_Ranking___init__ : Option Addr}
    {sl_Ranking___init__ : Array (Option Value)}
    {oc__law_made kV__law_made dc__law_made pm__law_made cd__law_made ct__law_made : Value}
    {od__law_made an__law_made : Option Addr}
    {sl__law_made : Array (Option Value)}
    {oc_Committee___sub__ kV_Committee___sub__ dc_Committee___sub__ pm_Committee___sub__ cd_Committee___sub__ ct_Committee___sub__ : Value}
    {od_Committee___sub__ an_Committee___sub__ : Option Addr}
    {sl_Committee___sub__ : Array (Option Value)}
    {rest_Game_alternatives : List Value}
    {oc_Game_alternatives kV_Game_alternatives dc_Game_alternatives pm_Game_alternatives cd_Game_alternatives ct_Game_alternatives : Value}
    {od_Game_alternatives an_Game_alternatives : Option Addr}
    {sl_Game_alternatives : Array (Option Value)}
    {rest_Game_turns : List Value}
    {oc_Game_turns kV_Game_turns dc_Game_turns pm_Game_turns cd_Game_turns ct_Game_turns : Value}
    {od_Game_turns an_Game_turns : Option Addr}
    {sl_Game_turns : Array (Option Value)}
    {rest_Committee_members : List Value}
    {oc_Committee_members kV_Committee_members dc_Committee_members pm_Committee_members cd_Committee_members ct_Committee_members : Value}
    {od_Committee_members an_Committee_members : Option Addr}
    {sl_Committee_members : Array (Option Value)}
    {oc_Ranking___and__ kV_Ranking___and__ dc_Ranking___and__ pm_Ranking___and__ cd_Ranking___and__ ct_Ranking___and__ : Value}
    {od_Ranking___and__ an_Ranking___and__ : Option Addr}
    {sl_Ranking___and__ : Array (Option Value)}
    {oc_is_number kV_is_number dc_is_number pm_is_number cd_is_number ct_is_number : Value}
    {od_is_number an_is_number : Option Addr}
    {sl_is_number : Array (Option Value)}
    {oc_Ranking___getitem__ kV_Ranking___getitem__ dc_Ranking___getitem__ pm_Ranking___getitem__ cd_Ranking___getitem__ ct_Ranking___getitem__ : Value}
    {od_Ranking___getitem__ an_Ranking___getitem__ : Option Addr}
    {sl_Ranking___getitem__ : Array (Option Value)}
    {oc_Ranking_worst kV_Ranking_worst dc_Ranking_worst pm_Ranking_worst cd_Ranking_worst ct_Ranking_worst : Value}
    {od_Ranking_worst an_Ranking_worst : Option Addr}
    {sl_Ranking_worst : Array (Option Value)}
    {oc_Game_ranking_of kV_Game_ranking_of dc_Game_ranking_of pm_Game_ranking_of cd_Game_ranking_of ct_Game_ranking_of : Value}
    {od_Game_ranking_of an_Game_ranking_of : Option Addr}
    {sl_Game_ranking_of : Array (Option Value)}
    {oc_backward_pass kV_backward_pass dc_backward_pass pm_backward_pass cd_backward_pass ct_backward_pass : Value}
    {od_backward_pass an_backward_pass : Option Addr}
    {sl_backward_pass : Array (Option Value)}
    {oc_outcome kV_outcome dc_outcome pm_outcome cd_outcome ct_outcome : Value}
    {od_outcome an_outcome : Option Addr}
    {sl_outcome : Array (Option Value)}
    {oc_account kV_account dc_account pm_account cd_account ct_account : Value}
    {od_account an_account : Option Addr}
    {sl_account : Array (Option Value)}
    {oc__law_raised kV__law_raised dc__law_raised pm__law_raised cd__law_raised ct__law_raised : Value}
    {od__law_raised an__law_raised : Option Addr}
    {sl__law_raised : Array (Option Value)}
    {oc_law kV_law dc_law pm_law cd_law ct_law : Value}
    {od_law an_law : Option Addr}
    {sl_law : Array (Option Value)}
    {fx_Ranking_Committee_BitAnd : Addr}
    {yoc_NoPlace ykv_NoPlace ydc_NoPlace ypm_NoPlace yct_NoPlace yccl_NoPlace ycl_NoPlace : Value}
    {yod_NoPlace yan_NoPlace ycdd_NoPlace ycld_NoPlace : Option Addr}
    {ysl_NoPlace yccs_NoPlace ycsl_NoPlace : Array (Option Value)}
    {ycda_NoPlace ycc_NoPlace : Addr}
    {yvs_NoPlace : Array Value}
    {yfile_NoPlace : Str}
    {ytf_NoPlace : Tok}
    {yoc_UnknownName ykv_UnknownName ydc_UnknownName ypm_UnknownName yct_UnknownName yccl_UnknownName ycl_UnknownName : Value}
    {yod_UnknownName yan_UnknownName ycdd_UnknownName ycld_UnknownName : Option Addr}
    {ysl_UnknownName yccs_UnknownName ycsl_UnknownName : Array (Option Value)}
    {ycda_UnknownName ycc_UnknownName : Addr}
    {yvs_UnknownName : Array Value}
    {yfile_UnknownName : Str}
    {ytf_UnknownName : Tok}
    (zb_all : PySem.W.nsIn K mainGlobals "all" = some none)
    (zb_bool : PySem.W.nsIn K mainGlobals "bool" = some none)
    (zb_dict : PySem.W.nsIn K mainGlobals "dict" = some none)
    (zb_enumerate : PySem.W.nsIn K mainGlobals "enumerate" = some none)
    (zb_int : PySem.W.nsIn K mainGlobals "int" = some none)
    (zb_isinstance : PySem.W.nsIn K mainGlobals "isinstance" = some none)
    (zb_len : PySem.W.nsIn K mainGlobals "len" = some none)
    (zb_list : PySem.W.nsIn K mainGlobals "list" = some none)
    (zb_max : PySem.W.nsIn K mainGlobals "max" = some none)
    (zb_min : PySem.W.nsIn K mainGlobals "min" = some none)
    (zb_range : PySem.W.nsIn K mainGlobals "range" = some none)
    (zb_sorted : PySem.W.nsIn K mainGlobals "sorted" = some none)
    (zb_str : PySem.W.nsIn K mainGlobals "str" = some none)
    (zb_super : PySem.W.nsIn K mainGlobals "super" = some none)
    (zv_LETTERS : PySem.W.nsIn K mainGlobals "LETTERS" = some (some (Value.str "abcdefghijklmnopqrstuvwxyz" t_LETTERS)))
    (zv_MAX_LETTERS : PySem.W.nsIn K mainGlobals "MAX_LETTERS" = some (some (Value.int 8 t_MAX_LETTERS)))
    (zv_MAX_NAMES : PySem.W.nsIn K mainGlobals "MAX_NAMES" = some (some (Value.int 30 t_MAX_NAMES)))
    (zg_Committee : PySem.W.nsIn K mainGlobals "Committee" = some (some (.ref c_Committee)))
    (zg_Game : PySem.W.nsIn K mainGlobals "Game" = some (some (.ref c_Game)))
    (zg_Ranking : PySem.W.nsIn K mainGlobals "Ranking" = some (some (.ref c_Ranking)))
    (zg_Turns : PySem.W.nsIn K mainGlobals "Turns" = some (some (.ref c_Turns)))
    (zg_InvalidCommittee : PySem.W.nsIn K mainGlobals "InvalidCommittee" = some (some (.ref c_InvalidCommittee)))
    (zg_InvalidGame : PySem.W.nsIn K mainGlobals "InvalidGame" = some (some (.ref c_InvalidGame)))
    (zg_InvalidRanking : PySem.W.nsIn K mainGlobals "InvalidRanking" = some (some (.ref c_InvalidRanking)))
    (zg_InvalidTurns : PySem.W.nsIn K mainGlobals "InvalidTurns" = some (some (.ref c_InvalidTurns)))
    (zg_NoPlace : PySem.W.nsIn K mainGlobals "NoPlace" = some (some (.ref c_NoPlace)))
    (zg_UnknownName : PySem.W.nsIn K mainGlobals "UnknownName" = some (some (.ref c_UnknownName)))
    (z0n : PySem.W.specialIn K (.builtin "object.__class__") "__get__" = some (some (.builtin "getset_descriptor.__get__")))
    (z0t : PySem.W.takesIn K (.builtin "object.__class__") = some true)
    (o1_Committee : PySem.W.plainGet K c_Committee Str.empty = true)
    (o2_Committee : PySem.W.hasDictIn K c_Committee = true)
    (o3_Committee : PySem.W.plainOver K c_Committee = true)
    (o4_Committee : PySem.W.findIn K (.ref c_Committee) "__setattr__" = some (some (.builtin "object.__setattr__")))
    (o5_Committee : PySem.W.findIn K (.ref c_Committee) "__class__" = some (some (.builtin "object.__class__")))
    (o6_Committee : PySem.W.mroIn K c_Committee (.type "object") = some true)
    (o7_Committee : PySem.W.selfFirst K c_Committee = true)
    (o1_Game : PySem.W.plainGet K c_Game Str.empty = true)
    (o2_Game : PySem.W.hasDictIn K c_Game = true)
    (o3_Game : PySem.W.plainOver K c_Game = true)
    (o4_Game : PySem.W.findIn K (.ref c_Game) "__setattr__" = some (some (.builtin "object.__setattr__")))
    (o5_Game : PySem.W.findIn K (.ref c_Game) "__class__" = some (some (.builtin "object.__class__")))
    (o6_Game : PySem.W.mroIn K c_Game (.type "object") = some true)
    (o7_Game : PySem.W.selfFirst K c_Game = true)
    (o1_Ranking : PySem.W.plainGet K c_Ranking Str.empty = true)
    (o2_Ranking : PySem.W.hasDictIn K c_Ranking = true)
    (o3_Ranking : PySem.W.plainOver K c_Ranking = true)
    (o4_Ranking : PySem.W.findIn K (.ref c_Ranking) "__setattr__" = some (some (.builtin "object.__setattr__")))
    (o5_Ranking : PySem.W.findIn K (.ref c_Ranking) "__class__" = some (some (.builtin "object.__class__")))
    (o6_Ranking : PySem.W.mroIn K c_Ranking (.type "object") = some true)
    (o7_Ranking : PySem.W.selfFirst K c_Ranking = true)
    (o1_Turns : PySem.W.plainGet K c_Turns Str.empty = true)
    (o2_Turns : PySem.W.hasDictIn K c_Turns = true)
    (o3_Turns : PySem.W.plainOver K c_Turns = true)
    (o4_Turns : PySem.W.findIn K (.ref c_Turns) "__setattr__" = some (some (.builtin "object.__setattr__")))
    (o5_Turns : PySem.W.findIn K (.ref c_Turns) "__class__" = some (some (.builtin "object.__class__")))
    (o6_Turns : PySem.W.mroIn K c_Turns (.type "object") = some true)
    (o7_Turns : PySem.W.selfFirst K c_Turns = true)
    (zn_Committee_own_members : PySem.W.findIn K (.ref c_Committee) "own_members" = some none)
    (zn_Game_own_rankings : PySem.W.findIn K (.ref c_Game) "own_rankings" = some none)
    (zn_Game_own_turns : PySem.W.findIn K (.ref c_Game) "own_turns" = some none)
    (zn_Ranking_order : PySem.W.findIn K (.ref c_Ranking) "order" = some none)
    (zn_Ranking_places : PySem.W.findIn K (.ref c_Ranking) "places" = some none)
    (zn_Turns_order : PySem.W.findIn K (.ref c_Turns) "order" = some none)
    (ab_Strategy : PySem.W.nsIn K mainGlobals "Strategy" = some none)
    (ab_Optimal : PySem.W.nsIn K mainGlobals "Optimal" = some none)
    (ab_Sincere : PySem.W.nsIn K mainGlobals "Sincere" = some none)
    (ab_Fixed : PySem.W.nsIn K mainGlobals "Fixed" = some none)
    (ab_Noted : PySem.W.nsIn K mainGlobals "Noted" = some none)
    (ab_Striker : PySem.W.nsIn K mainGlobals "Striker" = some none)
    (ab_Keeper : PySem.W.nsIn K mainGlobals "Keeper" = some none)
    (ab_Assigning : PySem.W.nsIn K mainGlobals "Assigning" = some none)
    (ab_Trial : PySem.W.nsIn K mainGlobals "Trial" = some none)
    (ab_Room : PySem.W.nsIn K mainGlobals "Room" = some none)
    (ab_Console : PySem.W.nsIn K mainGlobals "Console" = some none)
    (kt_Committee_str : PySem.W.kitOne K (.ref c_Committee) (.type "str") = some false)
    (kt_Committee_list : PySem.W.kitOne K (.ref c_Committee) (.type "list") = some false)
    (kt_Committee_int : PySem.W.kitOne K (.ref c_Committee) (.type "int") = some false)
    (kt_Committee_bool : PySem.W.kitOne K (.ref c_Committee) (.type "bool") = some false)
    (kt_Committee_dict : PySem.W.kitOne K (.ref c_Committee) (.type "dict") = some false)
    (kt_Committee_tuple : PySem.W.kitOne K (.ref c_Committee) (.type "tuple") = some false)
    (kb_Committee_NoneType : PySem.W.kitOne K (.type "NoneType") (.ref c_Committee) = some false)
    (kn_Committee_NoneType : PySem.W.notFirst K c_Committee (.type "NoneType") = true)
    (kb_Committee_bool : PySem.W.kitOne K (.type "bool") (.ref c_Committee) = some false)
    (kn_Committee_bool : PySem.W.notFirst K c_Committee (.type "bool") = true)
    (kb_Committee_int : PySem.W.kitOne K (.type "int") (.ref c_Committee) = some false)
    (kn_Committee_int : PySem.W.notFirst K c_Committee (.type "int") = true)
    (kb_Committee_str : PySem.W.kitOne K (.type "str") (.ref c_Committee) = some false)
    (kn_Committee_str : PySem.W.notFirst K c_Committee (.type "str") = true)
    (kb_Committee_list : PySem.W.kitOne K (.type "list") (.ref c_Committee) = some false)
    (kn_Committee_list : PySem.W.notFirst K c_Committee (.type "list") = true)
    (kb_Committee_tuple : PySem.W.kitOne K (.type "tuple") (.ref c_Committee) = some false)
    (kn_Committee_tuple : PySem.W.notFirst K c_Committee (.type "tuple") = true)
    (kb_Committee_dict : PySem.W.kitOne K (.type "dict") (.ref c_Committee) = some false)
    (kn_Committee_dict : PySem.W.notFirst K c_Committee (.type "dict") = true)
    (kd_Committee_Committee : PySem.W.kitOne K (.ref c_Committee) (.ref c_Committee) = some true)
    (ko_Committee_Committee : PySem.W.notFirst K c_Committee (.ref c_Committee) = true)
    (kd_Committee_Ranking : PySem.W.kitOne K (.ref c_Committee) (.ref c_Ranking) = some false)
    (ko_Committee_Ranking : PySem.W.notFirst K c_Committee (.ref c_Ranking) = true)
    (kd_Committee_Turns : PySem.W.kitOne K (.ref c_Committee) (.ref c_Turns) = some false)
    (ko_Committee_Turns : PySem.W.notFirst K c_Committee (.ref c_Turns) = true)
    (kd_Committee_Game : PySem.W.kitOne K (.ref c_Committee) (.ref c_Game) = some false)
    (ko_Committee_Game : PySem.W.notFirst K c_Committee (.ref c_Game) = true)
    (kt_Ranking_str : PySem.W.kitOne K (.ref c_Ranking) (.type "str") = some false)
    (kt_Ranking_list : PySem.W.kitOne K (.ref c_Ranking) (.type "list") = some false)
    (kt_Ranking_int : PySem.W.kitOne K (.ref c_Ranking) (.type "int") = some false)
    (kt_Ranking_bool : PySem.W.kitOne K (.ref c_Ranking) (.type "bool") = some false)
    (kt_Ranking_dict : PySem.W.kitOne K (.ref c_Ranking) (.type "dict") = some false)
    (kt_Ranking_tuple : PySem.W.kitOne K (.ref c_Ranking) (.type "tuple") = some false)
    (kb_Ranking_NoneType : PySem.W.kitOne K (.type "NoneType") (.ref c_Ranking) = some false)
    (kn_Ranking_NoneType : PySem.W.notFirst K c_Ranking (.type "NoneType") = true)
    (kb_Ranking_bool : PySem.W.kitOne K (.type "bool") (.ref c_Ranking) = some false)
    (kn_Ranking_bool : PySem.W.notFirst K c_Ranking (.type "bool") = true)
    (kb_Ranking_int : PySem.W.kitOne K (.type "int") (.ref c_Ranking) = some false)
    (kn_Ranking_int : PySem.W.notFirst K c_Ranking (.type "int") = true)
    (kb_Ranking_str : PySem.W.kitOne K (.type "str") (.ref c_Ranking) = some false)
    (kn_Ranking_str : PySem.W.notFirst K c_Ranking (.type "str") = true)
    (kb_Ranking_list : PySem.W.kitOne K (.type "list") (.ref c_Ranking) = some false)
    (kn_Ranking_list : PySem.W.notFirst K c_Ranking (.type "list") = true)
    (kb_Ranking_tuple : PySem.W.kitOne K (.type "tuple") (.ref c_Ranking) = some false)
    (kn_Ranking_tuple : PySem.W.notFirst K c_Ranking (.type "tuple") = true)
    (kb_Ranking_dict : PySem.W.kitOne K (.type "dict") (.ref c_Ranking) = some false)
    (kn_Ranking_dict : PySem.W.notFirst K c_Ranking (.type "dict") = true)
    (kd_Ranking_Committee : PySem.W.kitOne K (.ref c_Ranking) (.ref c_Committee) = some false)
    (ko_Ranking_Committee : PySem.W.notFirst K c_Ranking (.ref c_Committee) = true)
    (kd_Ranking_Ranking : PySem.W.kitOne K (.ref c_Ranking) (.ref c_Ranking) = some true)
    (ko_Ranking_Ranking : PySem.W.notFirst K c_Ranking (.ref c_Ranking) = true)
    (kd_Ranking_Turns : PySem.W.kitOne K (.ref c_Ranking) (.ref c_Turns) = some false)
    (ko_Ranking_Turns : PySem.W.notFirst K c_Ranking (.ref c_Turns) = true)
    (kd_Ranking_Game : PySem.W.kitOne K (.ref c_Ranking) (.ref c_Game) = some false)
    (ko_Ranking_Game : PySem.W.notFirst K c_Ranking (.ref c_Game) = true)
    (kt_Turns_str : PySem.W.kitOne K (.ref c_Turns) (.type "str") = some false)
    (kt_Turns_list : PySem.W.kitOne K (.ref c_Turns) (.type "list") = some false)
    (kt_Turns_int : PySem.W.kitOne K (.ref c_Turns) (.type "int") = some false)
    (kt_Turns_bool : PySem.W.kitOne K (.ref c_Turns) (.type "bool") = some false)
    (kt_Turns_dict : PySem.W.kitOne K (.ref c_Turns) (.type "dict") = some false)
    (kt_Turns_tuple : PySem.W.kitOne K (.ref c_Turns) (.type "tuple") = some false)
    (kb_Turns_NoneType : PySem.W.kitOne K (.type "NoneType") (.ref c_Turns) = some false)
    (kn_Turns_NoneType : PySem.W.notFirst K c_Turns (.type "NoneType") = true)
    (kb_Turns_bool : PySem.W.kitOne K (.type "bool") (.ref c_Turns) = some false)
    (kn_Turns_bool : PySem.W.notFirst K c_Turns (.type "bool") = true)
    (kb_Turns_int : PySem.W.kitOne K (.type "int") (.ref c_Turns) = some false)
    (kn_Turns_int : PySem.W.notFirst K c_Turns (.type "int") = true)
    (kb_Turns_str : PySem.W.kitOne K (.type "str") (.ref c_Turns) = some false)
    (kn_Turns_str : PySem.W.notFirst K c_Turns (.type "str") = true)
    (kb_Turns_list : PySem.W.kitOne K (.type "list") (.ref c_Turns) = some false)
    (kn_Turns_list : PySem.W.notFirst K c_Turns (.type "list") = true)
    (kb_Turns_tuple : PySem.W.kitOne K (.type "tuple") (.ref c_Turns) = some false)
    (kn_Turns_tuple : PySem.W.notFirst K c_Turns (.type "tuple") = true)
    (kb_Turns_dict : PySem.W.kitOne K (.type "dict") (.ref c_Turns) = some false)
    (kn_Turns_dict : PySem.W.notFirst K c_Turns (.type "dict") = true)
    (kd_Turns_Committee : PySem.W.kitOne K (.ref c_Turns) (.ref c_Committee) = some false)
    (ko_Turns_Committee : PySem.W.notFirst K c_Turns (.ref c_Committee) = true)
    (kd_Turns_Ranking : PySem.W.kitOne K (.ref c_Turns) (.ref c_Ranking) = some false)
    (ko_Turns_Ranking : PySem.W.notFirst K c_Turns (.ref c_Ranking) = true)
    (kd_Turns_Turns : PySem.W.kitOne K (.ref c_Turns) (.ref c_Turns) = some true)
    (ko_Turns_Turns : PySem.W.notFirst K c_Turns (.ref c_Turns) = true)
    (kd_Turns_Game : PySem.W.kitOne K (.ref c_Turns) (.ref c_Game) = some false)
    (ko_Turns_Game : PySem.W.notFirst K c_Turns (.ref c_Game) = true)
    (kt_Game_str : PySem.W.kitOne K (.ref c_Game) (.type "str") = some false)
    (kt_Game_list : PySem.W.kitOne K (.ref c_Game) (.type "list") = some false)
    (kt_Game_int : PySem.W.kitOne K (.ref c_Game) (.type "int") = some false)
    (kt_Game_bool : PySem.W.kitOne K (.ref c_Game) (.type "bool") = some false)
    (kt_Game_dict : PySem.W.kitOne K (.ref c_Game) (.type "dict") = some false)
    (kt_Game_tuple : PySem.W.kitOne K (.ref c_Game) (.type "tuple") = some false)
    (kb_Game_NoneType : PySem.W.kitOne K (.type "NoneType") (.ref c_Game) = some false)
    (kn_Game_NoneType : PySem.W.notFirst K c_Game (.type "NoneType") = true)
    (kb_Game_bool : PySem.W.kitOne K (.type "bool") (.ref c_Game) = some false)
    (kn_Game_bool : PySem.W.notFirst K c_Game (.type "bool") = true)
    (kb_Game_int : PySem.W.kitOne K (.type "int") (.ref c_Game) = some false)
    (kn_Game_int : PySem.W.notFirst K c_Game (.type "int") = true)
    (kb_Game_str : PySem.W.kitOne K (.type "str") (.ref c_Game) = some false)
    (kn_Game_str : PySem.W.notFirst K c_Game (.type "str") = true)
    (kb_Game_list : PySem.W.kitOne K (.type "list") (.ref c_Game) = some false)
    (kn_Game_list : PySem.W.notFirst K c_Game (.type "list") = true)
    (kb_Game_tuple : PySem.W.kitOne K (.type "tuple") (.ref c_Game) = some false)
    (kn_Game_tuple : PySem.W.notFirst K c_Game (.type "tuple") = true)
    (kb_Game_dict : PySem.W.kitOne K (.type "dict") (.ref c_Game) = some false)
    (kn_Game_dict : PySem.W.notFirst K c_Game (.type "dict") = true)
    (kd_Game_Committee : PySem.W.kitOne K (.ref c_Game) (.ref c_Committee) = some false)
    (ko_Game_Committee : PySem.W.notFirst K c_Game (.ref c_Committee) = true)
    (kd_Game_Ranking : PySem.W.kitOne K (.ref c_Game) (.ref c_Ranking) = some false)
    (ko_Game_Ranking : PySem.W.notFirst K c_Game (.ref c_Ranking) = true)
    (kd_Game_Turns : PySem.W.kitOne K (.ref c_Game) (.ref c_Turns) = some false)
    (ko_Game_Turns : PySem.W.notFirst K c_Game (.ref c_Turns) = true)
    (kd_Game_Game : PySem.W.kitOne K (.ref c_Game) (.ref c_Game) = some true)
    (ko_Game_Game : PySem.W.notFirst K c_Game (.ref c_Game) = true)
    (fa__law_stream : PySem.W.nsIn K mainGlobals "_law_stream" = some (some (.ref a__law_stream)))
    (l__law_stream : K.lookup a__law_stream = some ⟨oc__law_stream, od__law_stream, .func (PySem.W.fnOf "_law_stream" "_law_stream" (defArgs s__law_stream) (defBody s__law_stream) (defScope s__law_stream) .none kV__law_stream dc__law_stream pm__law_stream an__law_stream cd__law_stream ct__law_stream), sl__law_stream⟩)
    (k__law_stream : PySem.W.codeIn K cd__law_stream "_law_stream" = true)
    (e__law_stream : PySem.W.keepIn K (.ref a__law_stream) = true)
    (fa__law_draw : PySem.W.nsIn K mainGlobals "_law_draw" = some (some (.ref a__law_draw)))
    (l__law_draw : K.lookup a__law_draw = some ⟨oc__law_draw, od__law_draw, .func (PySem.W.fnOf "_law_draw" "_law_draw" (defArgs s__law_draw) (defBody s__law_draw) (defScope s__law_draw) .none kV__law_draw dc__law_draw pm__law_draw an__law_draw cd__law_draw ct__law_draw), sl__law_draw⟩)
    (k__law_draw : PySem.W.codeIn K cd__law_draw "_law_draw" = true)
    (e__law_draw : PySem.W.keepIn K (.ref a__law_draw) = true)
    (fa__law_names : PySem.W.nsIn K mainGlobals "_law_names" = some (some (.ref a__law_names)))
    (l__law_names : K.lookup a__law_names = some ⟨oc__law_names, od__law_names, .func (PySem.W.fnOf "_law_names" "_law_names" (defArgs s__law_names) (defBody s__law_names) (defScope s__law_names) .none kV__law_names dc__law_names pm__law_names an__law_names cd__law_names ct__law_names), sl__law_names⟩)
    (k__law_names : PySem.W.codeIn K cd__law_names "_law_names" = true)
    (e__law_names : PySem.W.keepIn K (.ref a__law_names) = true)
    (fa__law_shuffled : PySem.W.nsIn K mainGlobals "_law_shuffled" = some (some (.ref a__law_shuffled)))
    (l__law_shuffled : K.lookup a__law_shuffled = some ⟨oc__law_shuffled, od__law_shuffled, .func (PySem.W.fnOf "_law_shuffled" "_law_shuffled" (defArgs s__law_shuffled) (defBody s__law_shuffled) (defScope s__law_shuffled) .none kV__law_shuffled dc__law_shuffled pm__law_shuffled an__law_shuffled cd__law_shuffled ct__law_shuffled), sl__law_shuffled⟩)
    (k__law_shuffled : PySem.W.codeIn K cd__law_shuffled "_law_shuffled" = true)
    (e__law_shuffled : PySem.W.keepIn K (.ref a__law_shuffled) = true)
    (fa__law_choose : PySem.W.nsIn K mainGlobals "_law_choose" = some (some (.ref a__law_choose)))
    (l__law_choose : K.lookup a__law_choose = some ⟨oc__law_choose, od__law_choose, .func (PySem.W.fnOf "_law_choose" "_law_choose" (defArgs s__law_choose) (defBody s__law_choose) (defScope s__law_choose) .none kV__law_choose dc__law_choose pm__law_choose an__law_choose cd__law_choose ct__law_choose), sl__law_choose⟩)
    (k__law_choose : PySem.W.codeIn K cd__law_choose "_law_choose" = true)
    (e__law_choose : PySem.W.keepIn K (.ref a__law_choose) = true)
    (fa__law_drawn : PySem.W.nsIn K mainGlobals "_law_drawn" = some (some (.ref a__law_drawn)))
    (l__law_drawn : K.lookup a__law_drawn = some ⟨oc__law_drawn, od__law_drawn, .func (PySem.W.fnOf "_law_drawn" "_law_drawn" (defArgs s__law_drawn) (defBody s__law_drawn) (defScope s__law_drawn) .none kV__law_drawn dc__law_drawn pm__law_drawn an__law_drawn cd__law_drawn ct__law_drawn), sl__law_drawn⟩)
    (k__law_drawn : PySem.W.codeIn K cd__law_drawn "_law_drawn" = true)
    (e__law_drawn : PySem.W.keepIn K (.ref a__law_drawn) = true)
    (fa_is_name : PySem.W.nsIn K mainGlobals "is_name" = some (some (.ref a_is_name)))
    (l_is_name : K.lookup a_is_name = some ⟨oc_is_name, od_is_name, .func (PySem.W.fnOf "is_name" "is_name" (defArgs s_is_name) (defBody s_is_name) (defScope s_is_name) .none kV_is_name dc_is_name pm_is_name an_is_name cd_is_name ct_is_name), sl_is_name⟩)
    (k_is_name : PySem.W.codeIn K cd_is_name "is_name" = true)
    (e_is_name : PySem.W.keepIn K (.ref a_is_name) = true)
    (fa_Committee___eq__ : PySem.W.findIn K (.ref c_Committee) "__eq__" = some (some (.ref a_Committee___eq__)))
    (fb_Committee___eq__ : PySem.W.isFn K (.ref a_Committee___eq__) = true)
    (l_Committee___eq__ : K.lookup a_Committee___eq__ = some ⟨oc_Committee___eq__, od_Committee___eq__, .func (PySem.W.fnOf "__eq__" "Committee.__eq__" (defArgs s_Committee___eq__) (defBody s_Committee___eq__) (defScope s_Committee___eq__) .none kV_Committee___eq__ dc_Committee___eq__ pm_Committee___eq__ an_Committee___eq__ cd_Committee___eq__ ct_Committee___eq__), sl_Committee___eq__⟩)
    (k_Committee___eq__ : PySem.W.codeIn K cd_Committee___eq__ "Committee.__eq__" = true)
    (e_Committee___eq__ : PySem.W.keepIn K (.ref a_Committee___eq__) = true)
    (fa_distinct : PySem.W.nsIn K mainGlobals "distinct" = some (some (.ref a_distinct)))
    (l_distinct : K.lookup a_distinct = some ⟨oc_distinct, od_distinct, .func (PySem.W.fnOf "distinct" "distinct" (defArgs s_distinct) (defBody s_distinct) (defScope s_distinct) .none kV_distinct dc_distinct pm_distinct an_distinct cd_distinct ct_distinct), sl_distinct⟩)
    (k_distinct : PySem.W.codeIn K cd_distinct "distinct" = true)
    (e_distinct : PySem.W.keepIn K (.ref a_distinct) = true)
    (fa_are_names : PySem.W.nsIn K mainGlobals "are_names" = some (some (.ref a_are_names)))
    (l_are_names : K.lookup a_are_names = some ⟨oc_are_names, od_are_names, .func (PySem.W.fnOf "are_names" "are_names" (defArgs s_are_names) (defBody s_are_names) (defScope s_are_names) .none kV_are_names dc_are_names pm_are_names an_are_names cd_are_names ct_are_names), sl_are_names⟩)
    (k_are_names : PySem.W.codeIn K cd_are_names "are_names" = true)
    (e_are_names : PySem.W.keepIn K (.ref a_are_names) = true)
    (fa_Committee___init__ : PySem.W.findIn K (.ref c_Committee) "__init__" = some (some (.ref a_Committee___init__)))
    (fb_Committee___init__ : PySem.W.isFn K (.ref a_Committee___init__) = true)
    (fm1_Committee___init__ : PySem.W.makesIn K c_Committee = true)
    (fm2_Committee___init__ : PySem.W.keepIn K (.ref c_Committee) = true)
    (l_Committee___init__ : K.lookup a_Committee___init__ = some ⟨oc_Committee___init__, od_Committee___init__, .func (PySem.W.fnOf "__init__" "Committee.__init__" (defArgs s_Committee___init__) (defBody s_Committee___init__) (defScope s_Committee___init__) .none kV_Committee___init__ dc_Committee___init__ pm_Committee___init__ an_Committee___init__ cd_Committee___init__ ct_Committee___init__), sl_Committee___init__⟩)
    (k_Committee___init__ : PySem.W.codeIn K cd_Committee___init__ "Committee.__init__" = true)
    (e_Committee___init__ : PySem.W.keepIn K (.ref a_Committee___init__) = true)
    (fa_Ranking_alternatives : PySem.W.findIn K (.ref c_Ranking) "alternatives" = some (some (.ref b_Ranking_alternatives)))
    (fb_Ranking_alternatives : PySem.W.specialIn K (.ref b_Ranking_alternatives) "__get__" = some (some (.builtin "property.__get__")))
    (fc_Ranking_alternatives : PySem.W.takesIn K (.ref b_Ranking_alternatives) = some true)
    (fd_Ranking_alternatives : PySem.W.recIn K b_Ranking_alternatives "property" = some (.ref a_Ranking_alternatives :: rest_Ranking_alternatives))
    (l_Ranking_alternatives : K.lookup a_Ranking_alternatives = some ⟨oc_Ranking_alternatives, od_Ranking_alternatives, .func (PySem.W.fnOf "alternatives" "Ranking.alternatives" (defArgs s_Ranking_alternatives) (defBody s_Ranking_alternatives) (defScope s_Ranking_alternatives) .none kV_Ranking_alternatives dc_Ranking_alternatives pm_Ranking_alternatives an_Ranking_alternatives cd_Ranking_alternatives ct_Ranking_alternatives), sl_Ranking_alternatives⟩)
    (k_Ranking_alternatives : PySem.W.codeIn K cd_Ranking_alternatives "Ranking.alternatives" = true)
    (e_Ranking_alternatives : PySem.W.keepIn K (.ref a_Ranking_alternatives) = true)
    (fa_as_committee : PySem.W.nsIn K mainGlobals "as_committee" = some (some (.ref a_as_committee)))
    (l_as_committee : K.lookup a_as_committee = some ⟨oc_as_committee, od_as_committee, .func (PySem.W.fnOf "as_committee" "as_committee" (defArgs s_as_committee) (defBody s_as_committee) (defScope s_as_committee) .none kV_as_committee dc_as_committee pm_as_committee an_as_committee cd_as_committee ct_as_committee), sl_as_committee⟩)
    (k_as_committee : PySem.W.codeIn K cd_as_committee "as_committee" = true)
    (e_as_committee : PySem.W.keepIn K (.ref a_as_committee) = true)
    (fa_check_rankings : PySem.W.nsIn K mainGlobals "check_rankings" = some (some (.ref a_check_rankings)))
    (l_check_rankings : K.lookup a_check_rankings = some ⟨oc_check_rankings, od_check_rankings, .func (PySem.W.fnOf "check_rankings" "check_rankings" (defArgs s_check_rankings) (defBody s_check_rankings) (defScope s_check_rankings) .none kV_check_rankings dc_check_rankings pm_check_rankings an_check_rankings cd_check_rankings ct_check_rankings), sl_check_rankings⟩)
    (k_check_rankings : PySem.W.codeIn K cd_check_rankings "check_rankings" = true)
    (e_check_rankings : PySem.W.keepIn K (.ref a_check_rankings) = true)
    (fa_Turns___len__ : PySem.W.findIn K (.ref c_Turns) "__len__" = some (some (.ref a_Turns___len__)))
    (fb_Turns___len__ : PySem.W.isFn K (.ref a_Turns___len__) = true)
    (l_Turns___len__ : K.lookup a_Turns___len__ = some ⟨oc_Turns___len__, od_Turns___len__, .func (PySem.W.fnOf "__len__" "Turns.__len__" (defArgs s_Turns___len__) (defBody s_Turns___len__) (defScope s_Turns___len__) .none kV_Turns___len__ dc_Turns___len__ pm_Turns___len__ an_Turns___len__ cd_Turns___len__ ct_Turns___len__), sl_Turns___len__⟩)
    (k_Turns___len__ : PySem.W.codeIn K cd_Turns___len__ "Turns.__len__" = true)
    (e_Turns___len__ : PySem.W.keepIn K (.ref a_Turns___len__) = true)
    (fa_Game_first_ranking : PySem.W.findIn K (.ref c_Game) "first_ranking" = some (some (.ref a_Game_first_ranking)))
    (fb_Game_first_ranking : PySem.W.isFn K (.ref a_Game_first_ranking) = true)
    (l_Game_first_ranking : K.lookup a_Game_first_ranking = some ⟨oc_Game_first_ranking, od_Game_first_ranking, .func (PySem.W.fnOf "first_ranking" "Game.first_ranking" (defArgs s_Game_first_ranking) (defBody s_Game_first_ranking) (defScope s_Game_first_ranking) .none kV_Game_first_ranking dc_Game_first_ranking pm_Game_first_ranking an_Game_first_ranking cd_Game_first_ranking ct_Game_first_ranking), sl_Game_first_ranking⟩)
    (k_Game_first_ranking : PySem.W.codeIn K cd_Game_first_ranking "Game.first_ranking" = true)
    (e_Game_first_ranking : PySem.W.keepIn K (.ref a_Game_first_ranking) = true)
    (fa_Ranking___len__ : PySem.W.findIn K (.ref c_Ranking) "__len__" = some (some (.ref a_Ranking___len__)))
    (fb_Ranking___len__ : PySem.W.isFn K (.ref a_Ranking___len__) = true)
    (l_Ranking___len__ : K.lookup a_Ranking___len__ = some ⟨oc_Ranking___len__, od_Ranking___len__, .func (PySem.W.fnOf "__len__" "Ranking.__len__" (defArgs s_Ranking___len__) (defBody s_Ranking___len__) (defScope s_Ranking___len__) .none kV_Ranking___len__ dc_Ranking___len__ pm_Ranking___len__ an_Ranking___len__ cd_Ranking___len__ ct_Ranking___len__), sl_Ranking___len__⟩)
    (k_Ranking___len__ : PySem.W.codeIn K cd_Ranking___len__ "Ranking.__len__" = true)
    (e_Ranking___len__ : PySem.W.keepIn K (.ref a_Ranking___len__) = true)
    (fa_Turns_players : PySem.W.findIn K (.ref c_Turns) "players" = some (some (.ref b_Turns_players)))
    (fb_Turns_players : PySem.W.specialIn K (.ref b_Turns_players) "__get__" = some (some (.builtin "property.__get__")))
    (fc_Turns_players : PySem.W.takesIn K (.ref b_Turns_players) = some true)
    (fd_Turns_players : PySem.W.recIn K b_Turns_players "property" = some (.ref a_Turns_players :: rest_Turns_players))
    (l_Turns_players : K.lookup a_Turns_players = some ⟨oc_Turns_players, od_Turns_players, .func (PySem.W.fnOf "players" "Turns.players" (defArgs s_Turns_players) (defBody s_Turns_players) (defScope s_Turns_players) .none kV_Turns_players dc_Turns_players pm_Turns_players an_Turns_players cd_Turns_players ct_Turns_players), sl_Turns_players⟩)
    (k_Turns_players : PySem.W.codeIn K cd_Turns_players "Turns.players" = true)
    (e_Turns_players : PySem.W.keepIn K (.ref a_Turns_players) = true)
    (fa_Game_check_turns : PySem.W.findIn K (.ref c_Game) "check_turns" = some (some (.ref a_Game_check_turns)))
    (fb_Game_check_turns : PySem.W.isFn K (.ref a_Game_check_turns) = true)
    (l_Game_check_turns : K.lookup a_Game_check_turns = some ⟨oc_Game_check_turns, od_Game_check_turns, .func (PySem.W.fnOf "check_turns" "Game.check_turns" (defArgs s_Game_check_turns) (defBody s_Game_check_turns) (defScope s_Game_check_turns) .none kV_Game_check_turns dc_Game_check_turns pm_Game_check_turns an_Game_check_turns cd_Game_check_turns ct_Game_check_turns), sl_Game_check_turns⟩)
    (k_Game_check_turns : PySem.W.codeIn K cd_Game_check_turns "Game.check_turns" = true)
    (e_Game_check_turns : PySem.W.keepIn K (.ref a_Game_check_turns) = true)
    (fa_Game___init__ : PySem.W.findIn K (.ref c_Game) "__init__" = some (some (.ref a_Game___init__)))
    (fb_Game___init__ : PySem.W.isFn K (.ref a_Game___init__) = true)
    (fm1_Game___init__ : PySem.W.makesIn K c_Game = true)
    (fm2_Game___init__ : PySem.W.keepIn K (.ref c_Game) = true)
    (l_Game___init__ : K.lookup a_Game___init__ = some ⟨oc_Game___init__, od_Game___init__, .func (PySem.W.fnOf "__init__" "Game.__init__" (defArgs s_Game___init__) (defBody s_Game___init__) (defScope s_Game___init__) .none kV_Game___init__ dc_Game___init__ pm_Game___init__ an_Game___init__ cd_Game___init__ ct_Game___init__), sl_Game___init__⟩)
    (k_Game___init__ : PySem.W.codeIn K cd_Game___init__ "Game.__init__" = true)
    (e_Game___init__ : PySem.W.keepIn K (.ref a_Game___init__) = true)
    (fa_Turns___init__ : PySem.W.findIn K (.ref c_Turns) "__init__" = some (some (.ref a_Turns___init__)))
    (fb_Turns___init__ : PySem.W.isFn K (.ref a_Turns___init__) = true)
    (fm1_Turns___init__ : PySem.W.makesIn K c_Turns = true)
    (fm2_Turns___init__ : PySem.W.keepIn K (.ref c_Turns) = true)
    (l_Turns___init__ : K.lookup a_Turns___init__ = some ⟨oc_Turns___init__, od_Turns___init__, .func (PySem.W.fnOf "__init__" "Turns.__init__" (defArgs s_Turns___init__) (defBody s_Turns___init__) (defScope s_Turns___init__) .none kV_Turns___init__ dc_Turns___init__ pm_Turns___init__ an_Turns___init__ cd_Turns___init__ ct_Turns___init__), sl_Turns___init__⟩)
    (k_Turns___init__ : PySem.W.codeIn K cd_Turns___init__ "Turns.__init__" = true)
    (e_Turns___init__ : PySem.W.keepIn K (.ref a_Turns___init__) = true)
    (fa_Ranking___init__ : PySem.W.findIn K (.ref c_Ranking) "__init__" = some (some (.ref a_Ranking___init__)))
    (fb_Ranking___init__ : PySem.W.isFn K (.ref a_Ranking___init__) = true)
    (fm1_Ranking___init__ : PySem.W.makesIn K c_Ranking = true)
    (fm2_Ranking___init__ : PySem.W.keepIn K (.ref c_Ranking) = true)
    (l_Ranking___init__ : K.lookup a_Ranking___init__ = some ⟨oc_Ranking___init__, od_Ranking___init__, .func (PySem.W.fnOf "__init__" "Ranking.__init__" (defArgs s_Ranking___init__) (defBody s_Ranking___init__) (defScope s_Ranking___init__) .none kV_Ranking___init__ dc_Ranking___init__ pm_Ranking___init__ an_Ranking___init__ cd_Ranking___init__ ct_Ranking___init__), sl_Ranking___init__⟩)
    (k_Ranking___init__ : PySem.W.codeIn K cd_Ranking___init__ "Ranking.__init__" = true)
    (e_Ranking___init__ : PySem.W.keepIn K (.ref a_Ranking___init__) = true)
    (fa__law_made : PySem.W.nsIn K mainGlobals "_law_made" = some (some (.ref a__law_made)))
    (l__law_made : K.lookup a__law_made = some ⟨oc__law_made, od__law_made, .func (PySem.W.fnOf "_law_made" "_law_made" (defArgs s__law_made) (defBody s__law_made) (defScope s__law_made) .none kV__law_made dc__law_made pm__law_made an__law_made cd__law_made ct__law_made), sl__law_made⟩)
    (k__law_made : PySem.W.codeIn K cd__law_made "_law_made" = true)
    (e__law_made : PySem.W.keepIn K (.ref a__law_made) = true)
    (fa_Committee___sub__ : PySem.W.findIn K (.ref c_Committee) "__sub__" = some (some (.ref a_Committee___sub__)))
    (fb_Committee___sub__ : PySem.W.isFn K (.ref a_Committee___sub__) = true)
    (l_Committee___sub__ : K.lookup a_Committee___sub__ = some ⟨oc_Committee___sub__, od_Committee___sub__, .func (PySem.W.fnOf "__sub__" "Committee.__sub__" (defArgs s_Committee___sub__) (defBody s_Committee___sub__) (defScope s_Committee___sub__) .none kV_Committee___sub__ dc_Committee___sub__ pm_Committee___sub__ an_Committee___sub__ cd_Committee___sub__ ct_Committee___sub__), sl_Committee___sub__⟩)
    (k_Committee___sub__ : PySem.W.codeIn K cd_Committee___sub__ "Committee.__sub__" = true)
    (e_Committee___sub__ : PySem.W.keepIn K (.ref a_Committee___sub__) = true)
    (fa_Game_alternatives : PySem.W.findIn K (.ref c_Game) "alternatives" = some (some (.ref b_Game_alternatives)))
    (fb_Game_alternatives : PySem.W.specialIn K (.ref b_Game_alternatives) "__get__" = some (some (.builtin "property.__get__")))
    (fc_Game_alternatives : PySem.W.takesIn K (.ref b_Game_alternatives) = some true)
    (fd_Game_alternatives : PySem.W.recIn K b_Game_alternatives "property" = some (.ref a_Game_alternatives :: rest_Game_alternatives))
    (l_Game_alternatives : K.lookup a_Game_alternatives = some ⟨oc_Game_alternatives, od_Game_alternatives, .func (PySem.W.fnOf "alternatives" "Game.alternatives" (defArgs s_Game_alternatives) (defBody s_Game_alternatives) (defScope s_Game_alternatives) .none kV_Game_alternatives dc_Game_alternatives pm_Game_alternatives an_Game_alternatives cd_Game_alternatives ct_Game_alternatives), sl_Game_alternatives⟩)
    (k_Game_alternatives : PySem.W.codeIn K cd_Game_alternatives "Game.alternatives" = true)
    (e_Game_alternatives : PySem.W.keepIn K (.ref a_Game_alternatives) = true)
    (fa_Game_turns : PySem.W.findIn K (.ref c_Game) "turns" = some (some (.ref b_Game_turns)))
    (fb_Game_turns : PySem.W.specialIn K (.ref b_Game_turns) "__get__" = some (some (.builtin "property.__get__")))
    (fc_Game_turns : PySem.W.takesIn K (.ref b_Game_turns) = some true)
    (fd_Game_turns : PySem.W.recIn K b_Game_turns "property" = some (.ref a_Game_turns :: rest_Game_turns))
    (l_Game_turns : K.lookup a_Game_turns = some ⟨oc_Game_turns, od_Game_turns, .func (PySem.W.fnOf "turns" "Game.turns" (defArgs s_Game_turns) (defBody s_Game_turns) (defScope s_Game_turns) .none kV_Game_turns dc_Game_turns pm_Game_turns an_Game_turns cd_Game_turns ct_Game_turns), sl_Game_turns⟩)
    (k_Game_turns : PySem.W.codeIn K cd_Game_turns "Game.turns" = true)
    (e_Game_turns : PySem.W.keepIn K (.ref a_Game_turns) = true)
    (fa_Committee_members : PySem.W.findIn K (.ref c_Committee) "members" = some (some (.ref b_Committee_members)))
    (fb_Committee_members : PySem.W.specialIn K (.ref b_Committee_members) "__get__" = some (some (.builtin "property.__get__")))
    (fc_Committee_members : PySem.W.takesIn K (.ref b_Committee_members) = some true)
    (fd_Committee_members : PySem.W.recIn K b_Committee_members "property" = some (.ref a_Committee_members :: rest_Committee_members))
    (l_Committee_members : K.lookup a_Committee_members = some ⟨oc_Committee_members, od_Committee_members, .func (PySem.W.fnOf "members" "Committee.members" (defArgs s_Committee_members) (defBody s_Committee_members) (defScope s_Committee_members) .none kV_Committee_members dc_Committee_members pm_Committee_members an_Committee_members cd_Committee_members ct_Committee_members), sl_Committee_members⟩)
    (k_Committee_members : PySem.W.codeIn K cd_Committee_members "Committee.members" = true)
    (e_Committee_members : PySem.W.keepIn K (.ref a_Committee_members) = true)
    (fa_Ranking___and__ : PySem.W.findIn K (.ref c_Ranking) "__and__" = some (some (.ref a_Ranking___and__)))
    (fb_Ranking___and__ : PySem.W.isFn K (.ref a_Ranking___and__) = true)
    (l_Ranking___and__ : K.lookup a_Ranking___and__ = some ⟨oc_Ranking___and__, od_Ranking___and__, .func (PySem.W.fnOf "__and__" "Ranking.__and__" (defArgs s_Ranking___and__) (defBody s_Ranking___and__) (defScope s_Ranking___and__) .none kV_Ranking___and__ dc_Ranking___and__ pm_Ranking___and__ an_Ranking___and__ cd_Ranking___and__ ct_Ranking___and__), sl_Ranking___and__⟩)
    (k_Ranking___and__ : PySem.W.codeIn K cd_Ranking___and__ "Ranking.__and__" = true)
    (e_Ranking___and__ : PySem.W.keepIn K (.ref a_Ranking___and__) = true)
    (fa_is_number : PySem.W.nsIn K mainGlobals "is_number" = some (some (.ref a_is_number)))
    (l_is_number : K.lookup a_is_number = some ⟨oc_is_number, od_is_number, .func (PySem.W.fnOf "is_number" "is_number" (defArgs s_is_number) (defBody s_is_number) (defScope s_is_number) .none kV_is_number dc_is_number pm_is_number an_is_number cd_is_number ct_is_number), sl_is_number⟩)
    (k_is_number : PySem.W.codeIn K cd_is_number "is_number" = true)
    (e_is_number : PySem.W.keepIn K (.ref a_is_number) = true)
    (fa_Ranking___getitem__ : PySem.W.findIn K (.ref c_Ranking) "__getitem__" = some (some (.ref a_Ranking___getitem__)))
    (fb_Ranking___getitem__ : PySem.W.isFn K (.ref a_Ranking___getitem__) = true)
    (fi0_Ranking___getitem__ : PySem.W.fnIn K a_Ranking___getitem__ = true)
    (l_Ranking___getitem__ : K.lookup a_Ranking___getitem__ = some ⟨oc_Ranking___getitem__, od_Ranking___getitem__, .func (PySem.W.fnOf "__getitem__" "Ranking.__getitem__" (defArgs s_Ranking___getitem__) (defBody s_Ranking___getitem__) (defScope s_Ranking___getitem__) .none kV_Ranking___getitem__ dc_Ranking___getitem__ pm_Ranking___getitem__ an_Ranking___getitem__ cd_Ranking___getitem__ ct_Ranking___getitem__), sl_Ranking___getitem__⟩)
    (k_Ranking___getitem__ : PySem.W.codeIn K cd_Ranking___getitem__ "Ranking.__getitem__" = true)
    (e_Ranking___getitem__ : PySem.W.keepIn K (.ref a_Ranking___getitem__) = true)
    (fa_Ranking_worst : PySem.W.findIn K (.ref c_Ranking) "worst" = some (some (.ref a_Ranking_worst)))
    (fb_Ranking_worst : PySem.W.isFn K (.ref a_Ranking_worst) = true)
    (l_Ranking_worst : K.lookup a_Ranking_worst = some ⟨oc_Ranking_worst, od_Ranking_worst, .func (PySem.W.fnOf "worst" "Ranking.worst" (defArgs s_Ranking_worst) (defBody s_Ranking_worst) (defScope s_Ranking_worst) .none kV_Ranking_worst dc_Ranking_worst pm_Ranking_worst an_Ranking_worst cd_Ranking_worst ct_Ranking_worst), sl_Ranking_worst⟩)
    (k_Ranking_worst : PySem.W.codeIn K cd_Ranking_worst "Ranking.worst" = true)
    (e_Ranking_worst : PySem.W.keepIn K (.ref a_Ranking_worst) = true)
    (fa_Game_ranking_of : PySem.W.findIn K (.ref c_Game) "ranking_of" = some (some (.ref a_Game_ranking_of)))
    (fb_Game_ranking_of : PySem.W.isFn K (.ref a_Game_ranking_of) = true)
    (l_Game_ranking_of : K.lookup a_Game_ranking_of = some ⟨oc_Game_ranking_of, od_Game_ranking_of, .func (PySem.W.fnOf "ranking_of" "Game.ranking_of" (defArgs s_Game_ranking_of) (defBody s_Game_ranking_of) (defScope s_Game_ranking_of) .none kV_Game_ranking_of dc_Game_ranking_of pm_Game_ranking_of an_Game_ranking_of cd_Game_ranking_of ct_Game_ranking_of), sl_Game_ranking_of⟩)
    (k_Game_ranking_of : PySem.W.codeIn K cd_Game_ranking_of "Game.ranking_of" = true)
    (e_Game_ranking_of : PySem.W.keepIn K (.ref a_Game_ranking_of) = true)
    (fa_backward_pass : PySem.W.nsIn K mainGlobals "backward_pass" = some (some (.ref a_backward_pass)))
    (l_backward_pass : K.lookup a_backward_pass = some ⟨oc_backward_pass, od_backward_pass, .func (PySem.W.fnOf "backward_pass" "backward_pass" (defArgs s_backward_pass) (defBody s_backward_pass) (defScope s_backward_pass) .none kV_backward_pass dc_backward_pass pm_backward_pass an_backward_pass cd_backward_pass ct_backward_pass), sl_backward_pass⟩)
    (k_backward_pass : PySem.W.codeIn K cd_backward_pass "backward_pass" = true)
    (e_backward_pass : PySem.W.keepIn K (.ref a_backward_pass) = true)
    (fa_outcome : PySem.W.nsIn K mainGlobals "outcome" = some (some (.ref a_outcome)))
    (l_outcome : K.lookup a_outcome = some ⟨oc_outcome, od_outcome, .func (PySem.W.fnOf "outcome" "outcome" (defArgs s_outcome) (defBody s_outcome) (defScope s_outcome) .none kV_outcome dc_outcome pm_outcome an_outcome cd_outcome ct_outcome), sl_outcome⟩)
    (k_outcome : PySem.W.codeIn K cd_outcome "outcome" = true)
    (e_outcome : PySem.W.keepIn K (.ref a_outcome) = true)
    (fa_account : PySem.W.nsIn K mainGlobals "account" = some (some (.ref a_account)))
    (l_account : K.lookup a_account = some ⟨oc_account, od_account, .func (PySem.W.fnOf "account" "account" (defArgs s_account) (defBody s_account) (defScope s_account) .none kV_account dc_account pm_account an_account cd_account ct_account), sl_account⟩)
    (k_account : PySem.W.codeIn K cd_account "account" = true)
    (e_account : PySem.W.keepIn K (.ref a_account) = true)
    (fa__law_raised : PySem.W.nsIn K mainGlobals "_law_raised" = some (some (.ref a__law_raised)))
    (l__law_raised : K.lookup a__law_raised = some ⟨oc__law_raised, od__law_raised, .func (PySem.W.fnOf "_law_raised" "_law_raised" (defArgs s__law_raised) (defBody s__law_raised) (defScope s__law_raised) .none kV__law_raised dc__law_raised pm__law_raised an__law_raised cd__law_raised ct__law_raised), sl__law_raised⟩)
    (k__law_raised : PySem.W.codeIn K cd__law_raised "_law_raised" = true)
    (e__law_raised : PySem.W.keepIn K (.ref a__law_raised) = true)
    (fa_law : PySem.W.nsIn K mainGlobals "law" = some (some (.ref a_law)))
    (l_law : K.lookup a_law = some ⟨oc_law, od_law, .func (PySem.W.fnOf "law" "law" (defArgs s_law) (defBody s_law) (defScope s_law) .none kV_law dc_law pm_law an_law cd_law ct_law), sl_law⟩)
    (k_law : PySem.W.codeIn K cd_law "law" = true)
    (e_law : PySem.W.keepIn K (.ref a_law) = true)
    (zne_Committee : PySem.W.findIn K (.ref c_Committee) "__ne__" = some (some (.builtin "object.__ne__")))
    (r1_Ranking_Committee_BitAnd : PySem.W.findIn K (.ref c_Ranking) "__rand__" = some none)
    (r2_Ranking_Committee_BitAnd : PySem.W.findIn K (.ref c_Committee) "__rand__" = some none)
    (r3_Ranking_Committee_BitAnd : PySem.W.subIn K (.ref c_Committee) (.ref c_Ranking) = some false)
    (r4_Ranking_Committee_BitAnd : c_Ranking ≠ c_Committee)
    (fa_Committee___and__ : PySem.W.findIn K (.ref c_Committee) "__and__" = some (some (.ref fx_Ranking_Committee_BitAnd)))
    (zx_InvalidCommittee : PySem.W.excIn K c_InvalidCommittee [.type "ValueError", .type "Exception", .type "BaseException", .type "object"] "ValueError.__new__" = true)
    (zk_InvalidCommittee : PySem.W.keepIn K (.ref c_InvalidCommittee) = true)
    (zs_InvalidCommittee : PySem.W.subIn K (.ref c_InvalidCommittee) (.type "BaseException") = some true)
    (zt_InvalidCommittee : PySem.W.typeIn K (.ref c_InvalidCommittee) = some (.type "type"))
    (zx_InvalidGame : PySem.W.excIn K c_InvalidGame [.type "ValueError", .type "Exception", .type "BaseException", .type "object"] "ValueError.__new__" = true)
    (zk_InvalidGame : PySem.W.keepIn K (.ref c_InvalidGame) = true)
    (zs_InvalidGame : PySem.W.subIn K (.ref c_InvalidGame) (.type "BaseException") = some true)
    (zt_InvalidGame : PySem.W.typeIn K (.ref c_InvalidGame) = some (.type "type"))
    (zx_InvalidRanking : PySem.W.excIn K c_InvalidRanking [.type "ValueError", .type "Exception", .type "BaseException", .type "object"] "ValueError.__new__" = true)
    (zk_InvalidRanking : PySem.W.keepIn K (.ref c_InvalidRanking) = true)
    (zs_InvalidRanking : PySem.W.subIn K (.ref c_InvalidRanking) (.type "BaseException") = some true)
    (zt_InvalidRanking : PySem.W.typeIn K (.ref c_InvalidRanking) = some (.type "type"))
    (zx_InvalidTurns : PySem.W.excIn K c_InvalidTurns [.type "ValueError", .type "Exception", .type "BaseException", .type "object"] "ValueError.__new__" = true)
    (zk_InvalidTurns : PySem.W.keepIn K (.ref c_InvalidTurns) = true)
    (zs_InvalidTurns : PySem.W.subIn K (.ref c_InvalidTurns) (.type "BaseException") = some true)
    (zt_InvalidTurns : PySem.W.typeIn K (.ref c_InvalidTurns) = some (.type "type"))
    (zk_NoPlace : PySem.W.keepIn K (.ref c_NoPlace) = true)
    (zs_NoPlace : PySem.W.subIn K (.ref c_NoPlace) (.type "BaseException") = some true)
    (zt_NoPlace : PySem.W.typeIn K (.ref c_NoPlace) = some (.type "type"))
    (zi5_NoPlace : PySem.W.findIn K (.ref c_NoPlace) "__init__" = some (some (.ref i_NoPlace)))
    (zi1_NoPlace : PySem.W.excInitIn K c_NoPlace [.type "LookupError", .type "Exception", .type "BaseException", .type "object"] "LookupError.__new__" = true)
    (zi2_NoPlace : PySem.W.excOver K c_NoPlace [.type "LookupError", .type "Exception", .type "BaseException", .type "object"] = true)
    (zi3_NoPlace : PySem.W.findIn K (.ref c_NoPlace) "__setattr__" = some (some (.builtin "object.__setattr__")))
    (zi4_NoPlace : PySem.W.findIn K (.ref c_NoPlace) "number" = some none)
    (zi6_NoPlace : PySem.W.isFn K (.ref i_NoPlace) = true)
    (ze3_NoPlace : PySem.W.hasDictIn K c_NoPlace = true)
    (zi8_NoPlace : PySem.W.ks_superIn K c_NoPlace c_NoPlace "__init__" = some (some (.builtin "LookupError.__init__")))
    (zi9_NoPlace : PySem.W.subIn K (.ref c_NoPlace) (.type "LookupError") = some true)
    (ziA_NoPlace : PySem.W.nsIn K cStatics "thirdparty.any" = some none)
    (ziB_NoPlace : PySem.W.mroIn K c_NoPlace (.ref c_NoPlace) = some true)
    (ziC_NoPlace : (PG.main.scope.names.lookup ("super" : Str)).isSome = false)
    (ziD_NoPlace : K.lookup i_NoPlace = some ⟨yoc_NoPlace, yod_NoPlace, .func (PySem.W.ksFn "__init__" "NoPlace.__init__" (defArgs s_NoPlace___init__) (defBody s_NoPlace___init__) (defScope s_NoPlace___init__) .none ykv_NoPlace ydc_NoPlace ypm_NoPlace yan_NoPlace (.ref ycda_NoPlace) yct_NoPlace ycc_NoPlace), ysl_NoPlace⟩)
    (ziE_NoPlace : PySem.W.codeIn K (.ref ycda_NoPlace) "NoPlace.__init__" = true)
    (ziF_NoPlace : K.lookup ycda_NoPlace = some ⟨yccl_NoPlace, ycdd_NoPlace, .fields yvs_NoPlace, yccs_NoPlace⟩)
    (ziG_NoPlace : yvs_NoPlace[2]? = some (.str yfile_NoPlace ytf_NoPlace))
    (ziH_NoPlace : ((PG.main.file : Str) == yfile_NoPlace) = true)
    (ziI_NoPlace : K.lookup ycc_NoPlace = some ⟨ycl_NoPlace, ycld_NoPlace, .cell (some (.ref c_NoPlace)), ycsl_NoPlace⟩)
    (zk_UnknownName : PySem.W.keepIn K (.ref c_UnknownName) = true)
    (zs_UnknownName : PySem.W.subIn K (.ref c_UnknownName) (.type "BaseException") = some true)
    (zt_UnknownName : PySem.W.typeIn K (.ref c_UnknownName) = some (.type "type"))
    (zi5_UnknownName : PySem.W.findIn K (.ref c_UnknownName) "__init__" = some (some (.ref i_UnknownName)))
    (zi1_UnknownName : PySem.W.excInitIn K c_UnknownName [.type "LookupError", .type "Exception", .type "BaseException", .type "object"] "LookupError.__new__" = true)
    (zi2_UnknownName : PySem.W.excOver K c_UnknownName [.type "LookupError", .type "Exception", .type "BaseException", .type "object"] = true)
    (zi3_UnknownName : PySem.W.findIn K (.ref c_UnknownName) "__setattr__" = some (some (.builtin "object.__setattr__")))
    (zi4_UnknownName : PySem.W.findIn K (.ref c_UnknownName) "name" = some none)
    (zi6_UnknownName : PySem.W.isFn K (.ref i_UnknownName) = true)
    (ze3_UnknownName : PySem.W.hasDictIn K c_UnknownName = true)
    (zi8_UnknownName : PySem.W.ks_superIn K c_UnknownName c_UnknownName "__init__" = some (some (.builtin "LookupError.__init__")))
    (zi9_UnknownName : PySem.W.subIn K (.ref c_UnknownName) (.type "LookupError") = some true)
    (ziA_UnknownName : PySem.W.nsIn K cStatics "thirdparty.any" = some none)
    (ziB_UnknownName : PySem.W.mroIn K c_UnknownName (.ref c_UnknownName) = some true)
    (ziC_UnknownName : (PG.main.scope.names.lookup ("super" : Str)).isSome = false)
    (ziD_UnknownName : K.lookup i_UnknownName = some ⟨yoc_UnknownName, yod_UnknownName, .func (PySem.W.ksFn "__init__" "UnknownName.__init__" (defArgs s_UnknownName___init__) (defBody s_UnknownName___init__) (defScope s_UnknownName___init__) .none ykv_UnknownName ydc_UnknownName ypm_UnknownName yan_UnknownName (.ref ycda_UnknownName) yct_UnknownName ycc_UnknownName), ysl_UnknownName⟩)
    (ziE_UnknownName : PySem.W.codeIn K (.ref ycda_UnknownName) "UnknownName.__init__" = true)
    (ziF_UnknownName : K.lookup ycda_UnknownName = some ⟨yccl_UnknownName, ycdd_UnknownName, .fields yvs_UnknownName, yccs_UnknownName⟩)
    (ziG_UnknownName : yvs_UnknownName[2]? = some (.str yfile_UnknownName ytf_UnknownName))
    (ziH_UnknownName : ((PG.main.file : Str) == yfile_UnknownName) = true)
    (ziI_UnknownName : K.lookup ycc_UnknownName = some ⟨ycl_UnknownName, ycld_UnknownName, .cell (some (.ref c_UnknownName)), ycsl_UnknownName⟩)
    : ∃ fd : FuncData, (∀ (s : Shared) (v : Value), BindsTo s fd ⟨[v], []⟩ [("_law_script", v)]) ∧ ∀ base : Heap, K.In base → base.Ns mainGlobals mg → FnOk l.prog w K mg base (L2.CX l.prog w) 10 fa fd ["_law_script"] (spF K (MirF m_law)) := by
  have e := hfa.symm.trans (PySem.W.mg_of X G fa_law)
  cases e
  have T : Txt K mg ⟨c_Committee, c_Game, c_Ranking, c_Turns, c_InvalidCommittee, c_InvalidGame, c_InvalidRanking, c_InvalidTurns, c_NoPlace, c_UnknownName, i_NoPlace, i_UnknownName, a__law_stream, a__law_draw, a__law_names, a__law_shuffled, a__law_choose, a__law_drawn, a_is_name, a_Committee___eq__, a_distinct, a_are_names, a_Committee___init__, a_Ranking_alternatives, a_as_committee, a_check_rankings, a_Turns___len__, a_Game_first_ranking, a_Ranking___len__, a_Turns_players, a_Game_check_turns, a_Game___init__, a_Turns___init__, a_Ranking___init__, a__law_made, a_Committee___sub__, a_Game_alternatives, a_Game_turns, a_Committee_members, a_Ranking___and__, a_is_number, a_Ranking___getitem__, a_Ranking_worst, a_Game_ranking_of, a_backward_pass, a_outcome, a_account, a__law_raised, fa, PySem.W.fnOf "_law_stream" "_law_stream" (defArgs s__law_stream) (defBody s__law_stream) (defScope s__law_stream) .none kV__law_stream dc__law_stream pm__law_stream an__law_stream cd__law_stream ct__law_stream, PySem.W.fnOf "_law_draw" "_law_draw" (defArgs s__law_draw) (defBody s__law_draw) (defScope s__law_draw) .none kV__law_draw dc__law_draw pm__law_draw an__law_draw cd__law_draw ct__law_draw, PySem.W.fnOf "_law_names" "_law_names" (defArgs s__law_names) (defBody s__law_names) (defScope s__law_names) .none kV__law_names dc__law_names pm__law_names an__law_names cd__law_names ct__law_names, PySem.W.fnOf "_law_shuffled" "_law_shuffled" (defArgs s__law_shuffled) (defBody s__law_shuffled) (defScope s__law_shuffled) .none kV__law_shuffled dc__law_shuffled pm__law_shuffled an__law_shuffled cd__law_shuffled ct__law_shuffled, PySem.W.fnOf "_law_choose" "_law_choose" (defArgs s__law_choose) (defBody s__law_choose) (defScope s__law_choose) .none kV__law_choose dc__law_choose pm__law_choose an__law_choose cd__law_choose ct__law_choose, PySem.W.fnOf "_law_drawn" "_law_drawn" (defArgs s__law_drawn) (defBody s__law_drawn) (defScope s__law_drawn) .none kV__law_drawn dc__law_drawn pm__law_drawn an__law_drawn cd__law_drawn ct__law_drawn, PySem.W.fnOf "is_name" "is_name" (defArgs s_is_name) (defBody s_is_name) (defScope s_is_name) .none kV_is_name dc_is_name pm_is_name an_is_name cd_is_name ct_is_name, PySem.W.fnOf "__eq__" "Committee.__eq__" (defArgs s_Committee___eq__) (defBody s_Committee___eq__) (defScope s_Committee___eq__) .none kV_Committee___eq__ dc_Committee___eq__ pm_Committee___eq__ an_Committee___eq__ cd_Committee___eq__ ct_Committee___eq__, PySem.W.fnOf "distinct" "distinct" (defArgs s_distinct) (defBody s_distinct) (defScope s_distinct) .none kV_distinct dc_distinct pm_distinct an_distinct cd_distinct ct_distinct, PySem.W.fnOf "are_names" "are_names" (defArgs s_are_names) (defBody s_are_names) (defScope s_are_names) .none kV_are_names dc_are_names pm_are_names an_are_names cd_are_names ct_are_names, PySem.W.fnOf "__init__" "Committee.__init__" (defArgs s_Committee___init__) (defBody s_Committee___init__) (defScope s_Committee___init__) .none kV_Committee___init__ dc_Committee___init__ pm_Committee___init__ an_Committee___init__ cd_Committee___init__ ct_Committee___init__, PySem.W.fnOf "alternatives" "Ranking.alternatives" (defArgs s_Ranking_alternatives) (defBody s_Ranking_alternatives) (defScope s_Ranking_alternatives) .none kV_Ranking_alternatives dc_Ranking_alternatives pm_Ranking_alternatives an_Ranking_alternatives cd_Ranking_alternatives ct_Ranking_alternatives, PySem.W.fnOf "as_committee" "as_committee" (defArgs s_as_committee) (defBody s_as_committee) (defScope s_as_committee) .none kV_as_committee dc_as_committee pm_as_committee an_as_committee cd_as_committee ct_as_committee, PySem.W.fnOf "check_rankings" "check_rankings" (defArgs s_check_rankings) (defBody s_check_rankings) (defScope s_check_rankings) .none kV_check_rankings dc_check_rankings pm_check_rankings an_check_rankings cd_check_rankings ct_check_rankings, PySem.W.fnOf "__len__" "Turns.__len__" (defArgs s_Turns___len__) (defBody s_Turns___len__) (defScope s_Turns___len__) .none kV_Turns___len__ dc_Turns___len__ pm_Turns___len__ an_Turns___len__ cd_Turns___len__ ct_Turns___len__, PySem.W.fnOf "first_ranking" "Game.first_ranking" (defArgs s_Game_first_ranking) (defBody s_Game_first_ranking) (defScope s_Game_first_ranking) .none kV_Game_first_ranking dc_Game_first_ranking pm_Game_first_ranking an_Game_first_ranking cd_Game_first_ranking ct_Game_first_ranking, PySem.W.fnOf "__len__" "Ranking.__len__" (defArgs s_Ranking___len__) (defBody s_Ranking___len__) (defScope s_Ranking___len__) .none kV_Ranking___len__ dc_Ranking___len__ pm_Ranking___len__ an_Ranking___len__ cd_Ranking___len__ ct_Ranking___len__, PySem.W.fnOf "players" "Turns.players" (defArgs s_Turns_players) (defBody s_Turns_players) (defScope s_Turns_players) .none kV_Turns_players dc_Turns_players pm_Turns_players an_Turns_players cd_Turns_players ct_Turns_players, PySem.W.fnOf "check_turns" "Game.check_turns" (defArgs s_Game_check_turns) (defBody s_Game_check_turns) (defScope s_Game_check_turns) .none kV_Game_check_turns dc_Game_check_turns pm_Game_check_turns an_Game_check_turns cd_Game_check_turns ct_Game_check_turns, PySem.W.fnOf "__init__" "Game.__init__" (defArgs s_Game___init__) (defBody s_Game___init__) (defScope s_Game___init__) .none kV_Game___init__ dc_Game___init__ pm_Game___init__ an_Game___init__ cd_Game___init__ ct_Game___init__, PySem.W.fnOf "__init__" "Turns.__init__" (defArgs s_Turns___init__) (defBody s_Turns___init__) (defScope s_Turns___init__) .none kV_Turns___init__ dc_Turns___init__ pm_Turns___init__ an_Turns___init__ cd_Turns___init__ ct_Turns___init__, PySem.W.fnOf "__init__" "Ranking.__init__" (defArgs s_Ranking___init__) (defBody s_Ranking___init__) (defScope s_Ranking___init__) .none kV_Ranking___init__ dc_Ranking___init__ pm_Ranking___init__ an_Ranking___init__ cd_Ranking___init__ ct_Ranking___init__, PySem.W.fnOf "_law_made" "_law_made" (defArgs s__law_made) (defBody s__law_made) (defScope s__law_made) .none kV__law_made dc__law_made pm__law_made an__law_made cd__law_made ct__law_made, PySem.W.fnOf "__sub__" "Committee.__sub__" (defArgs s_Committee___sub__) (defBody s_Committee___sub__) (defScope s_Committee___sub__) .none kV_Committee___sub__ dc_Committee___sub__ pm_Committee___sub__ an_Committee___sub__ cd_Committee___sub__ ct_Committee___sub__, PySem.W.fnOf "alternatives" "Game.alternatives" (defArgs s_Game_alternatives) (defBody s_Game_alternatives) (defScope s_Game_alternatives) .none kV_Game_alternatives dc_Game_alternatives pm_Game_alternatives an_Game_alternatives cd_Game_alternatives ct_Game_alternatives, PySem.W.fnOf "turns" "Game.turns" (defArgs s_Game_turns) (defBody s_Game_turns) (defScope s_Game_turns) .none kV_Game_turns dc_Game_turns pm_Game_turns an_Game_turns cd_Game_turns ct_Game_turns, PySem.W.fnOf "members" "Committee.members" (defArgs s_Committee_members) (defBody s_Committee_members) (defScope s_Committee_members) .none kV_Committee_members dc_Committee_members pm_Committee_members an_Committee_members cd_Committee_members ct_Committee_members, PySem.W.fnOf "__and__" "Ranking.__and__" (defArgs s_Ranking___and__) (defBody s_Ranking___and__) (defScope s_Ranking___and__) .none kV_Ranking___and__ dc_Ranking___and__ pm_Ranking___and__ an_Ranking___and__ cd_Ranking___and__ ct_Ranking___and__, PySem.W.fnOf "is_number" "is_number" (defArgs s_is_number) (defBody s_is_number) (defScope s_is_number) .none kV_is_number dc_is_number pm_is_number an_is_number cd_is_number ct_is_number, PySem.W.fnOf "__getitem__" "Ranking.__getitem__" (defArgs s_Ranking___getitem__) (defBody s_Ranking___getitem__) (defScope s_Ranking___getitem__) .none kV_Ranking___getitem__ dc_Ranking___getitem__ pm_Ranking___getitem__ an_Ranking___getitem__ cd_Ranking___getitem__ ct_Ranking___getitem__, PySem.W.fnOf "worst" "Ranking.worst" (defArgs s_Ranking_worst) (defBody s_Ranking_worst) (defScope s_Ranking_worst) .none kV_Ranking_worst dc_Ranking_worst pm_Ranking_worst an_Ranking_worst cd_Ranking_worst ct_Ranking_worst, PySem.W.fnOf "ranking_of" "Game.ranking_of" (defArgs s_Game_ranking_of) (defBody s_Game_ranking_of) (defScope s_Game_ranking_of) .none kV_Game_ranking_of dc_Game_ranking_of pm_Game_ranking_of an_Game_ranking_of cd_Game_ranking_of ct_Game_ranking_of, PySem.W.fnOf "backward_pass" "backward_pass" (defArgs s_backward_pass) (defBody s_backward_pass) (defScope s_backward_pass) .none kV_backward_pass dc_backward_pass pm_backward_pass an_backward_pass cd_backward_pass ct_backward_pass, PySem.W.fnOf "outcome" "outcome" (defArgs s_outcome) (defBody s_outcome) (defScope s_outcome) .none kV_outcome dc_outcome pm_outcome an_outcome cd_outcome ct_outcome, PySem.W.fnOf "account" "account" (defArgs s_account) (defBody s_account) (defScope s_account) .none kV_account dc_account pm_account an_account cd_account ct_account, PySem.W.fnOf "_law_raised" "_law_raised" (defArgs s__law_raised) (defBody s__law_raised) (defScope s__law_raised) .none kV__law_raised dc__law_raised pm__law_raised an__law_raised cd__law_raised ct__law_raised, PySem.W.fnOf "law" "law" (defArgs s_law) (defBody s_law) (defScope s_law) .none kV_law dc_law pm_law an_law cd_law ct_law, Value.str "abcdefghijklmnopqrstuvwxyz" t_LETTERS, Value.int 8 t_MAX_LETTERS, Value.int 30 t_MAX_NAMES, b_Committee_members, b_Game_alternatives, b_Game_turns, b_Ranking_alternatives, b_Turns_players⟩ := {
    b_all := PySem.W.mg_none_of X G zb_all
    b_bool := PySem.W.mg_none_of X G zb_bool
    b_dict := PySem.W.mg_none_of X G zb_dict
    b_enumerate := PySem.W.mg_none_of X G zb_enumerate
    b_int := PySem.W.mg_none_of X G zb_int
    b_isinstance := PySem.W.mg_none_of X G zb_isinstance
    b_len := PySem.W.mg_none_of X G zb_len
    b_list := PySem.W.mg_none_of X G zb_list
    b_max := PySem.W.mg_none_of X G zb_max
    b_min := PySem.W.mg_none_of X G zb_min
    b_range := PySem.W.mg_none_of X G zb_range
    b_sorted := PySem.W.mg_none_of X G zb_sorted
    b_str := PySem.W.mg_none_of X G zb_str
    b_super := PySem.W.mg_none_of X G zb_super
    v_LETTERS := PySem.W.mg_of X G zv_LETTERS
    r_LETTERS := ⟨_, rfl⟩
    v_MAX_LETTERS := PySem.W.mg_of X G zv_MAX_LETTERS
    r_MAX_LETTERS := ⟨_, rfl⟩
    v_MAX_NAMES := PySem.W.mg_of X G zv_MAX_NAMES
    r_MAX_NAMES := ⟨_, rfl⟩
    gn_Committee := zg_Committee
    g_Committee := PySem.W.mg_of X G zg_Committee
    cl_Committee := clOf_of zg_Committee
    gn_Game := zg_Game
    g_Game := PySem.W.mg_of X G zg_Game
    cl_Game := clOf_of zg_Game
    gn_Ranking := zg_Ranking
    g_Ranking := PySem.W.mg_of X G zg_Ranking
    cl_Ranking := clOf_of zg_Ranking
    gn_Turns := zg_Turns
    g_Turns := PySem.W.mg_of X G zg_Turns
    cl_Turns := clOf_of zg_Turns
    gn_InvalidCommittee := zg_InvalidCommittee
    g_InvalidCommittee := PySem.W.mg_of X G zg_InvalidCommittee
    cl_InvalidCommittee := clOf_of zg_InvalidCommittee
    gn_InvalidGame := zg_InvalidGame
    g_InvalidGame := PySem.W.mg_of X G zg_InvalidGame
    cl_InvalidGame := clOf_of zg_InvalidGame
    gn_InvalidRanking := zg_InvalidRanking
    g_InvalidRanking := PySem.W.mg_of X G zg_InvalidRanking
    cl_InvalidRanking := clOf_of zg_InvalidRanking
    gn_InvalidTurns := zg_InvalidTurns
    g_InvalidTurns := PySem.W.mg_of X G zg_InvalidTurns
    cl_InvalidTurns := clOf_of zg_InvalidTurns
    gn_NoPlace := zg_NoPlace
    g_NoPlace := PySem.W.mg_of X G zg_NoPlace
    cl_NoPlace := clOf_of zg_NoPlace
    gn_UnknownName := zg_UnknownName
    g_UnknownName := PySem.W.mg_of X G zg_UnknownName
    cl_UnknownName := clOf_of zg_UnknownName
    z0 := ⟨z0n, z0t⟩
    o_Committee := ⟨⟨o1_Committee, o2_Committee, o3_Committee, o4_Committee⟩, o5_Committee, o6_Committee, o7_Committee⟩
    o_Game := ⟨⟨o1_Game, o2_Game, o3_Game, o4_Game⟩, o5_Game, o6_Game, o7_Game⟩
    o_Ranking := ⟨⟨o1_Ranking, o2_Ranking, o3_Ranking, o4_Ranking⟩, o5_Ranking, o6_Ranking, o7_Ranking⟩
    o_Turns := ⟨⟨o1_Turns, o2_Turns, o3_Turns, o4_Turns⟩, o5_Turns, o6_Turns, o7_Turns⟩
    n_Committee_own_members := zn_Committee_own_members
    n_Game_own_rankings := zn_Game_own_rankings
    n_Game_own_turns := zn_Game_own_turns
    n_Ranking_order := zn_Ranking_order
    n_Ranking_places := zn_Ranking_places
    n_Turns_order := zn_Turns_order
    tab := tab_of (L := ["Committee", "Ranking", "Turns", "Game"]) ⟨z0n, z0t⟩ (by (try unfold CLS); (try simp only [List.forall_mem_cons]); exact ⟨(.inl (by decide)), (.inl (by decide)), (.inl (by decide)), (.inl (by decide)), (.inr ab_Strategy), (.inr ab_Optimal), (.inr ab_Sincere), (.inr ab_Fixed), (.inr ab_Noted), (.inr ab_Striker), (.inr ab_Keeper), (.inr ab_Assigning), (.inr ab_Trial), (.inr ab_Room), (.inr ab_Console), fun _ h => nomatch h⟩) (by (try unfold CLS); (try simp only [List.forall_mem_cons]); exact ⟨(by rw [clOf_of zg_Committee]; exact ⟨⟨o1_Committee, o2_Committee, o3_Committee, o4_Committee⟩, o5_Committee, o6_Committee, o7_Committee⟩), (by rw [clOf_of zg_Ranking]; exact ⟨⟨o1_Ranking, o2_Ranking, o3_Ranking, o4_Ranking⟩, o5_Ranking, o6_Ranking, o7_Ranking⟩), (by rw [clOf_of zg_Turns]; exact ⟨⟨o1_Turns, o2_Turns, o3_Turns, o4_Turns⟩, o5_Turns, o6_Turns, o7_Turns⟩), (by rw [clOf_of zg_Game]; exact ⟨⟨o1_Game, o2_Game, o3_Game, o4_Game⟩, o5_Game, o6_Game, o7_Game⟩), fun _ h => nomatch h⟩) (by (try unfold CLS); (try simp only [List.forall_mem_cons]); exact ⟨(by rw [clOf_of zg_Committee]; unfold TYS; (try simp only [List.forall_mem_cons]); exact ⟨kt_Committee_str, kt_Committee_list, kt_Committee_int, kt_Committee_bool, kt_Committee_dict, kt_Committee_tuple, fun _ h => nomatch h⟩), (by rw [clOf_of zg_Ranking]; unfold TYS; (try simp only [List.forall_mem_cons]); exact ⟨kt_Ranking_str, kt_Ranking_list, kt_Ranking_int, kt_Ranking_bool, kt_Ranking_dict, kt_Ranking_tuple, fun _ h => nomatch h⟩), (by rw [clOf_of zg_Turns]; unfold TYS; (try simp only [List.forall_mem_cons]); exact ⟨kt_Turns_str, kt_Turns_list, kt_Turns_int, kt_Turns_bool, kt_Turns_dict, kt_Turns_tuple, fun _ h => nomatch h⟩), (by rw [clOf_of zg_Game]; unfold TYS; (try simp only [List.forall_mem_cons]); exact ⟨kt_Game_str, kt_Game_list, kt_Game_int, kt_Game_bool, kt_Game_dict, kt_Game_tuple, fun _ h => nomatch h⟩), fun _ h => nomatch h⟩) (by (try unfold CLS); (try simp only [List.forall_mem_cons]); exact ⟨(by rw [clOf_of zg_Committee]; unfold TYS7; (try simp only [List.forall_mem_cons]); exact ⟨kb_Committee_NoneType, kb_Committee_bool, kb_Committee_int, kb_Committee_str, kb_Committee_list, kb_Committee_tuple, kb_Committee_dict, fun _ h => nomatch h⟩), (by rw [clOf_of zg_Ranking]; unfold TYS7; (try simp only [List.forall_mem_cons]); exact ⟨kb_Ranking_NoneType, kb_Ranking_bool, kb_Ranking_int, kb_Ranking_str, kb_Ranking_list, kb_Ranking_tuple, kb_Ranking_dict, fun _ h => nomatch h⟩), (by rw [clOf_of zg_Turns]; unfold TYS7; (try simp only [List.forall_mem_cons]); exact ⟨kb_Turns_NoneType, kb_Turns_bool, kb_Turns_int, kb_Turns_str, kb_Turns_list, kb_Turns_tuple, kb_Turns_dict, fun _ h => nomatch h⟩), (by rw [clOf_of zg_Game]; unfold TYS7; (try simp only [List.forall_mem_cons]); exact ⟨kb_Game_NoneType, kb_Game_bool, kb_Game_int, kb_Game_str, kb_Game_list, kb_Game_tuple, kb_Game_dict, fun _ h => nomatch h⟩), fun _ h => nomatch h⟩) (by (try unfold CLS); (try simp only [List.forall_mem_cons]); exact ⟨(by rw [clOf_of zg_Committee]; unfold TYS7; (try simp only [List.forall_mem_cons]); exact ⟨kn_Committee_NoneType, kn_Committee_bool, kn_Committee_int, kn_Committee_str, kn_Committee_list, kn_Committee_tuple, kn_Committee_dict, fun _ h => nomatch h⟩), (by rw [clOf_of zg_Ranking]; unfold TYS7; (try simp only [List.forall_mem_cons]); exact ⟨kn_Ranking_NoneType, kn_Ranking_bool, kn_Ranking_int, kn_Ranking_str, kn_Ranking_list, kn_Ranking_tuple, kn_Ranking_dict, fun _ h => nomatch h⟩), (by rw [clOf_of zg_Turns]; unfold TYS7; (try simp only [List.forall_mem_cons]); exact ⟨kn_Turns_NoneType, kn_Turns_bool, kn_Turns_int, kn_Turns_str, kn_Turns_list, kn_Turns_tuple, kn_Turns_dict, fun _ h => nomatch h⟩), (by rw [clOf_of zg_Game]; unfold TYS7; (try simp only [List.forall_mem_cons]); exact ⟨kn_Game_NoneType, kn_Game_bool, kn_Game_int, kn_Game_str, kn_Game_list, kn_Game_tuple, kn_Game_dict, fun _ h => nomatch h⟩), fun _ h => nomatch h⟩) (by (try unfold CLS); (try simp only [List.forall_mem_cons]); exact ⟨(by rw [clOf_of zg_Committee]; (try simp only [List.forall_mem_cons]); exact ⟨(by (try rw [clOf_of zg_Committee]); exact kd_Committee_Committee), (by (try rw [clOf_of zg_Ranking]); exact kd_Committee_Ranking), (by (try rw [clOf_of zg_Turns]); exact kd_Committee_Turns), (by (try rw [clOf_of zg_Game]); exact kd_Committee_Game), fun _ h => nomatch h⟩), (by rw [clOf_of zg_Ranking]; (try simp only [List.forall_mem_cons]); exact ⟨(by (try rw [clOf_of zg_Committee]); exact kd_Ranking_Committee), (by (try rw [clOf_of zg_Ranking]); exact kd_Ranking_Ranking), (by (try rw [clOf_of zg_Turns]); exact kd_Ranking_Turns), (by (try rw [clOf_of zg_Game]); exact kd_Ranking_Game), fun _ h => nomatch h⟩), (by rw [clOf_of zg_Turns]; (try simp only [List.forall_mem_cons]); exact ⟨(by (try rw [clOf_of zg_Committee]); exact kd_Turns_Committee), (by (try rw [clOf_of zg_Ranking]); exact kd_Turns_Ranking), (by (try rw [clOf_of zg_Turns]); exact kd_Turns_Turns), (by (try rw [clOf_of zg_Game]); exact kd_Turns_Game), fun _ h => nomatch h⟩), (by rw [clOf_of zg_Game]; (try simp only [List.forall_mem_cons]); exact ⟨(by (try rw [clOf_of zg_Committee]); exact kd_Game_Committee), (by (try rw [clOf_of zg_Ranking]); exact kd_Game_Ranking), (by (try rw [clOf_of zg_Turns]); exact kd_Game_Turns), (by (try rw [clOf_of zg_Game]); exact kd_Game_Game), fun _ h => nomatch h⟩), fun _ h => nomatch h⟩) (by (try unfold CLS); (try simp only [List.forall_mem_cons]); exact ⟨(by rw [clOf_of zg_Committee]; (try simp only [List.forall_mem_cons]); exact ⟨(by (try rw [clOf_of zg_Committee]); exact fun _ => ko_Committee_Committee), (by (try rw [clOf_of zg_Ranking]); exact fun _ => ko_Committee_Ranking), (by (try rw [clOf_of zg_Turns]); exact fun _ => ko_Committee_Turns), (by (try rw [clOf_of zg_Game]); exact fun _ => ko_Committee_Game), fun _ h => nomatch h⟩), (by rw [clOf_of zg_Ranking]; (try simp only [List.forall_mem_cons]); exact ⟨(by (try rw [clOf_of zg_Committee]); exact fun _ => ko_Ranking_Committee), (by (try rw [clOf_of zg_Ranking]); exact fun _ => ko_Ranking_Ranking), (by (try rw [clOf_of zg_Turns]); exact fun _ => ko_Ranking_Turns), (by (try rw [clOf_of zg_Game]); exact fun _ => ko_Ranking_Game), fun _ h => nomatch h⟩), (by rw [clOf_of zg_Turns]; (try simp only [List.forall_mem_cons]); exact ⟨(by (try rw [clOf_of zg_Committee]); exact fun _ => ko_Turns_Committee), (by (try rw [clOf_of zg_Ranking]); exact fun _ => ko_Turns_Ranking), (by (try rw [clOf_of zg_Turns]); exact fun _ => ko_Turns_Turns), (by (try rw [clOf_of zg_Game]); exact fun _ => ko_Turns_Game), fun _ h => nomatch h⟩), (by rw [clOf_of zg_Game]; (try simp only [List.forall_mem_cons]); exact ⟨(by (try rw [clOf_of zg_Committee]); exact fun _ => ko_Game_Committee), (by (try rw [clOf_of zg_Ranking]); exact fun _ => ko_Game_Ranking), (by (try rw [clOf_of zg_Turns]); exact fun _ => ko_Game_Turns), (by (try rw [clOf_of zg_Game]); exact fun _ => ko_Game_Game), fun _ h => nomatch h⟩), fun _ h => nomatch h⟩)
    gl__law_stream := PySem.W.mg_of X G fa__law_stream
    F__law_stream := fun_mk (st := s__law_stream) l__law_stream k__law_stream e__law_stream
    gl__law_draw := PySem.W.mg_of X G fa__law_draw
    F__law_draw := fun_mk (st := s__law_draw) l__law_draw k__law_draw e__law_draw
    gl__law_names := PySem.W.mg_of X G fa__law_names
    F__law_names := fun_mk (st := s__law_names) l__law_names k__law_names e__law_names
    gl__law_shuffled := PySem.W.mg_of X G fa__law_shuffled
    F__law_shuffled := fun_mk (st := s__law_shuffled) l__law_shuffled k__law_shuffled e__law_shuffled
    gl__law_choose := PySem.W.mg_of X G fa__law_choose
    F__law_choose := fun_mk (st := s__law_choose) l__law_choose k__law_choose e__law_choose
    gl__law_drawn := PySem.W.mg_of X G fa__law_drawn
    F__law_drawn := fun_mk (st := s__law_drawn) l__law_drawn k__law_drawn e__law_drawn
    gl_is_name := PySem.W.mg_of X G fa_is_name
    F_is_name := fun_mk (st := s_is_name) l_is_name k_is_name e_is_name
    p_Committee___eq__ := ⟨fa_Committee___eq__, fb_Committee___eq__⟩
    F_Committee___eq__ := fun_mk (st := s_Committee___eq__) l_Committee___eq__ k_Committee___eq__ e_Committee___eq__
    h_Committee___eq__ := ⟨fa_Committee___eq__, fb_Committee___eq__, e_Committee___eq__⟩
    gl_distinct := PySem.W.mg_of X G fa_distinct
    F_distinct := fun_mk (st := s_distinct) l_distinct k_distinct e_distinct
    gl_are_names := PySem.W.mg_of X G fa_are_names
    F_are_names := fun_mk (st := s_are_names) l_are_names k_are_names e_are_names
    p_Committee___init__ := ⟨fa_Committee___init__, fb_Committee___init__⟩
    m_Committee := ⟨fm1_Committee___init__, fa_Committee___init__, fb_Committee___init__, fm2_Committee___init__⟩
    F_Committee___init__ := fun_mk (st := s_Committee___init__) l_Committee___init__ k_Committee___init__ e_Committee___init__
    h_Committee___init__ := ⟨fa_Committee___init__, fb_Committee___init__, e_Committee___init__⟩
    q_Ranking_alternatives := ⟨fa_Ranking_alternatives, fb_Ranking_alternatives, fc_Ranking_alternatives, ⟨_, fd_Ranking_alternatives⟩⟩
    F_Ranking_alternatives := fun_mk (st := s_Ranking_alternatives) l_Ranking_alternatives k_Ranking_alternatives e_Ranking_alternatives
    gl_as_committee := PySem.W.mg_of X G fa_as_committee
    F_as_committee := fun_mk (st := s_as_committee) l_as_committee k_as_committee e_as_committee
    gl_check_rankings := PySem.W.mg_of X G fa_check_rankings
    F_check_rankings := fun_mk (st := s_check_rankings) l_check_rankings k_check_rankings e_check_rankings
    p_Turns___len__ := ⟨fa_Turns___len__, fb_Turns___len__⟩
    F_Turns___len__ := fun_mk (st := s_Turns___len__) l_Turns___len__ k_Turns___len__ e_Turns___len__
    h_Turns___len__ := ⟨fa_Turns___len__, fb_Turns___len__, e_Turns___len__⟩
    p_Game_first_ranking := ⟨fa_Game_first_ranking, fb_Game_first_ranking⟩
    F_Game_first_ranking := fun_mk (st := s_Game_first_ranking) l_Game_first_ranking k_Game_first_ranking e_Game_first_ranking
    h_Game_first_ranking := ⟨fa_Game_first_ranking, fb_Game_first_ranking, e_Game_first_ranking⟩
    p_Ranking___len__ := ⟨fa_Ranking___len__, fb_Ranking___len__⟩
    F_Ranking___len__ := fun_mk (st := s_Ranking___len__) l_Ranking___len__ k_Ranking___len__ e_Ranking___len__
    h_Ranking___len__ := ⟨fa_Ranking___len__, fb_Ranking___len__, e_Ranking___len__⟩
    q_Turns_players := ⟨fa_Turns_players, fb_Turns_players, fc_Turns_players, ⟨_, fd_Turns_players⟩⟩
    F_Turns_players := fun_mk (st := s_Turns_players) l_Turns_players k_Turns_players e_Turns_players
    p_Game_check_turns := ⟨fa_Game_check_turns, fb_Game_check_turns⟩
    F_Game_check_turns := fun_mk (st := s_Game_check_turns) l_Game_check_turns k_Game_check_turns e_Game_check_turns
    h_Game_check_turns := ⟨fa_Game_check_turns, fb_Game_check_turns, e_Game_check_turns⟩
    p_Game___init__ := ⟨fa_Game___init__, fb_Game___init__⟩
    m_Game := ⟨fm1_Game___init__, fa_Game___init__, fb_Game___init__, fm2_Game___init__⟩
    F_Game___init__ := fun_mk (st := s_Game___init__) l_Game___init__ k_Game___init__ e_Game___init__
    h_Game___init__ := ⟨fa_Game___init__, fb_Game___init__, e_Game___init__⟩
    p_Turns___init__ := ⟨fa_Turns___init__, fb_Turns___init__⟩
    m_Turns := ⟨fm1_Turns___init__, fa_Turns___init__, fb_Turns___init__, fm2_Turns___init__⟩
    F_Turns___init__ := fun_mk (st := s_Turns___init__) l_Turns___init__ k_Turns___init__ e_Turns___init__
    h_Turns___init__ := ⟨fa_Turns___init__, fb_Turns___init__, e_Turns___init__⟩
    p_Ranking___init__ := ⟨fa_Ranking___init__, fb_Ranking___init__⟩
    m_Ranking := ⟨fm1_Ranking___init__, fa_Ranking___init__, fb_Ranking___init__, fm2_Ranking___init__⟩
    F_Ranking___init__ := fun_mk (st := s_Ranking___init__) l_Ranking___init__ k_Ranking___init__ e_Ranking___init__
    h_Ranking___init__ := ⟨fa_Ranking___init__, fb_Ranking___init__, e_Ranking___init__⟩
    gl__law_made := PySem.W.mg_of X G fa__law_made
    F__law_made := fun_mk (st := s__law_made) l__law_made k__law_made e__law_made
    p_Committee___sub__ := ⟨fa_Committee___sub__, fb_Committee___sub__⟩
    F_Committee___sub__ := fun_mk (st := s_Committee___sub__) l_Committee___sub__ k_Committee___sub__ e_Committee___sub__
    h_Committee___sub__ := ⟨fa_Committee___sub__, fb_Committee___sub__, e_Committee___sub__⟩
    q_Game_alternatives := ⟨fa_Game_alternatives, fb_Game_alternatives, fc_Game_alternatives, ⟨_, fd_Game_alternatives⟩⟩
    F_Game_alternatives := fun_mk (st := s_Game_alternatives) l_Game_alternatives k_Game_alternatives e_Game_alternatives
    q_Game_turns := ⟨fa_Game_turns, fb_Game_turns, fc_Game_turns, ⟨_, fd_Game_turns⟩⟩
    F_Game_turns := fun_mk (st := s_Game_turns) l_Game_turns k_Game_turns e_Game_turns
    q_Committee_members := ⟨fa_Committee_members, fb_Committee_members, fc_Committee_members, ⟨_, fd_Committee_members⟩⟩
    F_Committee_members := fun_mk (st := s_Committee_members) l_Committee_members k_Committee_members e_Committee_members
    p_Ranking___and__ := ⟨fa_Ranking___and__, fb_Ranking___and__⟩
    F_Ranking___and__ := fun_mk (st := s_Ranking___and__) l_Ranking___and__ k_Ranking___and__ e_Ranking___and__
    h_Ranking___and__ := ⟨fa_Ranking___and__, fb_Ranking___and__, e_Ranking___and__⟩
    gl_is_number := PySem.W.mg_of X G fa_is_number
    F_is_number := fun_mk (st := s_is_number) l_is_number k_is_number e_is_number
    p_Ranking___getitem__ := ⟨fa_Ranking___getitem__, fb_Ranking___getitem__⟩
    fi_Ranking___getitem__ := fi0_Ranking___getitem__
    F_Ranking___getitem__ := fun_mk (st := s_Ranking___getitem__) l_Ranking___getitem__ k_Ranking___getitem__ e_Ranking___getitem__
    h_Ranking___getitem__ := ⟨fa_Ranking___getitem__, fb_Ranking___getitem__, e_Ranking___getitem__⟩
    p_Ranking_worst := ⟨fa_Ranking_worst, fb_Ranking_worst⟩
    F_Ranking_worst := fun_mk (st := s_Ranking_worst) l_Ranking_worst k_Ranking_worst e_Ranking_worst
    h_Ranking_worst := ⟨fa_Ranking_worst, fb_Ranking_worst, e_Ranking_worst⟩
    p_Game_ranking_of := ⟨fa_Game_ranking_of, fb_Game_ranking_of⟩
    F_Game_ranking_of := fun_mk (st := s_Game_ranking_of) l_Game_ranking_of k_Game_ranking_of e_Game_ranking_of
    h_Game_ranking_of := ⟨fa_Game_ranking_of, fb_Game_ranking_of, e_Game_ranking_of⟩
    gl_backward_pass := PySem.W.mg_of X G fa_backward_pass
    F_backward_pass := fun_mk (st := s_backward_pass) l_backward_pass k_backward_pass e_backward_pass
    gl_outcome := PySem.W.mg_of X G fa_outcome
    F_outcome := fun_mk (st := s_outcome) l_outcome k_outcome e_outcome
    gl_account := PySem.W.mg_of X G fa_account
    F_account := fun_mk (st := s_account) l_account k_account e_account
    gl__law_raised := PySem.W.mg_of X G fa__law_raised
    F__law_raised := fun_mk (st := s__law_raised) l__law_raised k__law_raised e__law_raised
    gl_law := PySem.W.mg_of X G fa_law
    F_law := fun_mk (st := s_law) l_law k_law e_law
    ne_Committee := zne_Committee
    bin_Ranking_Committee_BitAnd := by simp only [List.forall_mem_cons]; exact ⟨fun a dx fs H h => by rw [clOf_of zg_Committee] at h; exact .own h o7_Committee r1_Ranking_Committee_BitAnd (.inl rfl) fa_Committee___and__ r2_Ranking_Committee_BitAnd (.inl rfl) r3_Ranking_Committee_BitAnd r4_Ranking_Committee_BitAnd, fun _ h => nomatch h⟩
    x_InvalidCommittee := zx_InvalidCommittee
    k_InvalidCommittee := zk_InvalidCommittee
    s_InvalidCommittee := zs_InvalidCommittee
    t_InvalidCommittee := zt_InvalidCommittee
    x_InvalidGame := zx_InvalidGame
    k_InvalidGame := zk_InvalidGame
    s_InvalidGame := zs_InvalidGame
    t_InvalidGame := zt_InvalidGame
    x_InvalidRanking := zx_InvalidRanking
    k_InvalidRanking := zk_InvalidRanking
    s_InvalidRanking := zs_InvalidRanking
    t_InvalidRanking := zt_InvalidRanking
    x_InvalidTurns := zx_InvalidTurns
    k_InvalidTurns := zk_InvalidTurns
    s_InvalidTurns := zs_InvalidTurns
    t_InvalidTurns := zt_InvalidTurns
    k_NoPlace := zk_NoPlace
    s_NoPlace := zs_NoPlace
    t_NoPlace := zt_NoPlace
    sp_NoPlace := ⟨zi1_NoPlace, zi2_NoPlace, zi3_NoPlace, zi4_NoPlace, zi5_NoPlace, zi6_NoPlace, ze3_NoPlace, zi8_NoPlace, zi9_NoPlace, ziA_NoPlace, ziB_NoPlace, ziC_NoPlace, _, _, _, _, _, _, _, _, _, _, _, _, _, _, _, _, _, _, _, _, _, _, _, _, isInit_NoPlace, ziD_NoPlace, ziE_NoPlace, ziF_NoPlace, ziG_NoPlace, ziH_NoPlace, ziI_NoPlace⟩
    k_UnknownName := zk_UnknownName
    s_UnknownName := zs_UnknownName
    t_UnknownName := zt_UnknownName
    sp_UnknownName := ⟨zi1_UnknownName, zi2_UnknownName, zi3_UnknownName, zi4_UnknownName, zi5_UnknownName, zi6_UnknownName, ze3_UnknownName, zi8_UnknownName, zi9_UnknownName, ziA_UnknownName, ziB_UnknownName, ziC_UnknownName, _, _, _, _, _, _, _, _, _, _, _, _, _, _, _, _, _, _, _, _, _, _, _, _, isInit_UnknownName, ziD_UnknownName, ziE_UnknownName, ziF_UnknownName, ziG_UnknownName, ziH_UnknownName, ziI_UnknownName⟩
  }
  rw [hP]
  exact ⟨_, fun s v => .of_eq rfl, fun base _ _ => ok_law T⟩
theorem walk {l : PySem.W.OpenLaw} {q : Program} {loose : List Str} {XP : (Str → Option Value) → Heap → Prop} {YP : World → Heap → Prop} {d : DefRec} {K : Params → PySem.W.Frag} (hn : l.most = some 63) (hdf : d.params.defaults = [])
    (hY : ∀ (w : World) (h : Heap), YP w h → (K w.params).In h)
    (F : ∀ (w : World) (mg : Str → Option Value) (fa : Addr) (h : Heap), (K w.params).In h → h.Ns mainGlobals mg → mg d.name = some (.ref fa) →
      ∃ fd : FuncData, (∀ (s : Shared) (u : Value), BindsTo s fd ⟨[u], []⟩ [("_law_script", u)]) ∧ ∀ base : Heap, (K w.params).In base → base.Ns mainGlobals mg → FnOk l.prog w (K w.params) mg base (L2.CX l.prog w) 10 fa fd ["_law_script"] (spF (K w.params) (MirF m_law))) :
    PySem.W.WalkO q loose XP YP l.row.toRowW d [] (fun f vs => PySem.call f vs) :=
  L2.walk_of (n := 63) (k := 10) (x := "_law_script") (CX := fun w => L2.CX l.prog w) (sp := fun w => spF (K w.params) (MirF m_law)) hn (by decide) hdf ⟨rfl, by decide, by decide⟩ hY F (fun w H a ns hl _ hS => law_spM law_true hl hS) fun w H s e s' h => law_cx h
end Toy
open PySem PySem.W PyProof.Rows in
set_option maxRecDepth 100000 in
set_option maxHeartbeats 0 in
theorem PySem.Challenge.cw_fewleft_k27_whole_raised_members_holds : PySem.Challenge.rw_fewleft_k27_whole_raised_members.Holds := by
  w_on; o_law; k_head; (case hw => w_witness2)
  k_fill
  refine Toy.walk (l := PySem.Challenge.rw_fewleft_k27_whole_raised_members) rfl rfl (fun w h Y => PySem.W.kIn_of Y) ?F
  case F =>
    intro w mg fa h KX G hmg
    refine' Toy.all_mk KX G hmg rfl ?zb_all ?zb_bool ?zb_dict ?zb_enumerate ?zb_int ?zb_isinstance ?zb_len ?zb_list ?zb_max ?zb_min ?zb_range ?zb_sorted ?zb_str ?zb_super ?zv_LETTERS ?zv_MAX_LETTERS ?zv_MAX_NAMES ?zg_Committee ?zg_Game ?zg_Ranking ?zg_Turns ?zg_InvalidCommittee ?zg_InvalidGame ?zg_InvalidRanking ?zg_InvalidTurns ?zg_NoPlace ?zg_UnknownName ?z0n ?z0t ?o1_Committee ?o2_Committee ?o3_Committee ?o4_Committee ?o5_Committee ?o6_Committee ?o7_Committee ?o1_Game ?o2_Game ?o3_Game ?o4_Game ?o5_Game ?o6_Game ?o7_Game ?o1_Ranking ?o2_Ranking ?o3_Ranking ?o4_Ranking ?o5_Ranking ?o6_Ranking ?o7_Ranking ?o1_Turns ?o2_Turns ?o3_Turns ?o4_Turns ?o5_Turns ?o6_Turns ?o7_Turns ?zn_Committee_own_members ?zn_Game_own_rankings ?zn_Game_own_turns ?zn_Ranking_order ?zn_Ranking_places ?zn_Turns_order ?ab_Strategy ?ab_Optimal ?ab_Sincere ?ab_Fixed ?ab_Noted ?ab_Striker ?ab_Keeper ?ab_Assigning ?ab_Trial ?ab_Room ?ab_Console ?kt_Committee_str ?kt_Committee_list ?kt_Committee_int ?kt_Committee_bool ?kt_Committee_dict ?kt_Committee_tuple ?kb_Committee_NoneType ?kn_Committee_NoneType ?kb_Committee_bool ?kn_Committee_bool ?kb_Committee_int ?kn_Committee_int ?kb_Committee_str ?kn_Committee_str ?kb_Committee_list ?kn_Committee_list ?kb_Committee_tuple ?kn_Committee_tuple ?kb_Committee_dict ?kn_Committee_dict ?kd_Committee_Committee ?ko_Committee_Committee ?kd_Committee_Ranking ?ko_Committee_Ranking ?kd_Committee_Turns ?ko_Committee_Turns ?kd_Committee_Game ?ko_Committee_Game ?kt_Ranking_str ?kt_Ranking_list ?kt_Ranking_int ?kt_Ranking_bool ?kt_Ranking_dict ?kt_Ranking_tuple ?kb_Ranking_NoneType ?kn_Ranking_NoneType ?kb_Ranking_bool ?kn_Ranking_bool ?kb_Ranking_int ?kn_Ranking_int ?kb_Ranking_str ?kn_Ranking_str ?kb_Ranking_list ?kn_Ranking_list ?kb_Ranking_tuple ?kn_Ranking_tuple ?kb_Ranking_dict ?kn_Ranking_dict ?kd_Ranking_Committee ?ko_Ranking_Committee ?kd_Ranking_Ranking ?ko_Ranking_Ranking ?kd_Ranking_Turns ?ko_Ranking_Turns ?kd_Ranking_Game ?ko_Ranking_Game ?kt_Turns_str ?kt_Turns_list ?kt_Turns_int ?kt_Turns_bool ?kt_Turns_dict ?kt_Turns_tuple ?kb_Turns_NoneType ?kn_Turns_NoneType ?kb_Turns_bool ?kn_Turns_bool ?kb_Turns_int ?kn_Turns_int ?kb_Turns_str ?kn_Turns_str ?kb_Turns_list ?kn_Turns_list ?kb_Turns_tuple ?kn_Turns_tuple ?kb_Turns_dict ?kn_Turns_dict ?kd_Turns_Committee ?ko_Turns_Committee ?kd_Turns_Ranking ?ko_Turns_Ranking ?kd_Turns_Turns ?ko_Turns_Turns ?kd_Turns_Game ?ko_Turns_Game ?kt_Game_str ?kt_Game_list ?kt_Game_int ?kt_Game_bool ?kt_Game_dict ?kt_Game_tuple ?kb_Game_NoneType ?kn_Game_NoneType ?kb_Game_bool ?kn_Game_bool ?kb_Game_int ?kn_Game_int ?kb_Game_str ?kn_Game_str ?kb_Game_list ?kn_Game_list ?kb_Game_tuple ?kn_Game_tuple ?kb_Game_dict ?kn_Game_dict ?kd_Game_Committee ?ko_Game_Committee ?kd_Game_Ranking ?ko_Game_Ranking ?kd_Game_Turns ?ko_Game_Turns ?kd_Game_Game ?ko_Game_Game ?fa__law_stream ?l__law_stream ?k__law_stream ?e__law_stream ?fa__law_draw ?l__law_draw ?k__law_draw ?e__law_draw ?fa__law_names ?l__law_names ?k__law_names ?e__law_names ?fa__law_shuffled ?l__law_shuffled ?k__law_shuffled ?e__law_shuffled ?fa__law_choose ?l__law_choose ?k__law_choose ?e__law_choose ?fa__law_drawn ?l__law_drawn ?k__law_drawn ?e__law_drawn ?fa_is_name ?l_is_name ?k_is_name ?e_is_name ?fa_Committee___eq__ ?fb_Committee___eq__ ?l_Committee___eq__ ?k_Committee___eq__ ?e_Committee___eq__ ?fa_distinct ?l_distinct ?k_distinct ?e_distinct ?fa_are_names ?l_are_names ?k_are_names ?e_are_names ?fa_Committee___init__ ?fb_Committee___init__ ?fm1_Committee___init__ ?fm2_Committee___init__ ?l_Committee___init__ ?k_Committee___init__ ?e_Committee___init__ ?fa_Ranking_alternatives ?fb_Ranking_alternatives ?fc_Ranking_alternatives ?fd_Ranking_alternatives ?l_Ranking_alternatives ?k_Ranking_alternatives ?e_Ranking_alternatives ?fa_as_committee ?l_as_committee ?k_as_committee ?e_as_committee ?fa_check_rankings ?l_check_rankings ?k_check_rankings ?e_check_rankings ?fa_Turns___len__ ?fb_Turns___len__ ?l_Turns___len__ ?k_Turns___len__ ?e_Turns___len__ ?fa_Game_first_ranking ?fb_Game_first_ranking ?l_Game_first_ranking ?k_Game_first_ranking ?e_Game_first_ranking ?fa_Ranking___len__ ?fb_Ranking___len__ ?l_Ranking___len__ ?k_Ranking___len__ ?e_Ranking___len__ ?fa_Turns_players ?fb_Turns_players ?fc_Turns_players ?fd_Turns_players ?l_Turns_players ?k_Turns_players ?e_Turns_players ?fa_Game_check_turns ?fb_Game_check_turns ?l_Game_check_turns ?k_Game_check_turns ?e_Game_check_turns ?fa_Game___init__ ?fb_Game___init__ ?fm1_Game___init__ ?fm2_Game___init__ ?l_Game___init__ ?k_Game___init__ ?e_Game___init__ ?fa_Turns___init__ ?fb_Turns___init__ ?fm1_Turns___init__ ?fm2_Turns___init__ ?l_Turns___init__ ?k_Turns___init__ ?e_Turns___init__ ?fa_Ranking___init__ ?fb_Ranking___init__ ?fm1_Ranking___init__ ?fm2_Ranking___init__ ?l_Ranking___init__ ?k_Ranking___init__ ?e_Ranking___init__ ?fa__law_made ?l__law_made ?k__law_made ?e__law_made ?fa_Committee___sub__ ?fb_Committee___sub__ ?l_Committee___sub__ ?k_Committee___sub__ ?e_Committee___sub__ ?fa_Game_alternatives ?fb_Game_alternatives ?fc_Game_alternatives ?fd_Game_alternatives ?l_Game_alternatives ?k_Game_alternatives ?e_Game_alternatives ?fa_Game_turns ?fb_Game_turns ?fc_Game_turns ?fd_Game_turns ?l_Game_turns ?k_Game_turns ?e_Game_turns ?fa_Committee_members ?fb_Committee_members ?fc_Committee_members ?fd_Committee_members ?l_Committee_members ?k_Committee_members ?e_Committee_members ?fa_Ranking___and__ ?fb_Ranking___and__ ?l_Ranking___and__ ?k_Ranking___and__ ?e_Ranking___and__ ?fa_is_number ?l_is_number ?k_is_number ?e_is_number ?fa_Ranking___getitem__ ?fb_Ranking___getitem__ ?fi0_Ranking___getitem__ ?l_Ranking___getitem__ ?k_Ranking___getitem__ ?e_Ranking___getitem__ ?fa_Ranking_worst ?fb_Ranking_worst ?l_Ranking_worst ?k_Ranking_worst ?e_Ranking_worst ?fa_Game_ranking_of ?fb_Game_ranking_of ?l_Game_ranking_of ?k_Game_ranking_of ?e_Game_ranking_of ?fa_backward_pass ?l_backward_pass ?k_backward_pass ?e_backward_pass ?fa_outcome ?l_outcome ?k_outcome ?e_outcome ?fa_account ?l_account ?k_account ?e_account ?fa__law_raised ?l__law_raised ?k__law_raised ?e__law_raised ?fa_law ?l_law ?k_law ?e_law ?zne_Committee ?r1_Ranking_Committee_BitAnd ?r2_Ranking_Committee_BitAnd ?r3_Ranking_Committee_BitAnd ?r4_Ranking_Committee_BitAnd ?fa_Committee___and__ ?zx_InvalidCommittee ?zk_InvalidCommittee ?zs_InvalidCommittee ?zt_InvalidCommittee ?zx_InvalidGame ?zk_InvalidGame ?zs_InvalidGame ?zt_InvalidGame ?zx_InvalidRanking ?zk_InvalidRanking ?zs_InvalidRanking ?zt_InvalidRanking ?zx_InvalidTurns ?zk_InvalidTurns ?zs_InvalidTurns ?zt_InvalidTurns ?zk_NoPlace ?zs_NoPlace ?zt_NoPlace ?zi5_NoPlace ?zi1_NoPlace ?zi2_NoPlace ?zi3_NoPlace ?zi4_NoPlace ?zi6_NoPlace ?ze3_NoPlace ?zi8_NoPlace ?zi9_NoPlace ?ziA_NoPlace ?ziB_NoPlace ?ziC_NoPlace ?ziD_NoPlace ?ziE_NoPlace ?ziF_NoPlace ?ziG_NoPlace ?ziH_NoPlace ?ziI_NoPlace ?zk_UnknownName ?zs_UnknownName ?zt_UnknownName ?zi5_UnknownName ?zi1_UnknownName ?zi2_UnknownName ?zi3_UnknownName ?zi4_UnknownName ?zi6_UnknownName ?ze3_UnknownName ?zi8_UnknownName ?zi9_UnknownName ?ziA_UnknownName ?ziB_UnknownName ?ziC_UnknownName ?ziD_UnknownName ?ziE_UnknownName ?ziF_UnknownName ?ziG_UnknownName ?ziH_UnknownName ?ziI_UnknownName
    (case zb_all => k_is)
    (case zb_bool => k_is)
    (case zb_dict => k_is)
    (case zb_enumerate => k_is)
    (case zb_int => k_is)
    (case zb_isinstance => k_is)
    (case zb_len => k_is)
    (case zb_list => k_is)
    (case zb_max => k_is)
    (case zb_min => k_is)
    (case zb_range => k_is)
    (case zb_sorted => k_is)
    (case zb_str => k_is)
    (case zb_super => k_is)
    (case zv_LETTERS => k_is)
    (case zv_MAX_LETTERS => k_is)
    (case zv_MAX_NAMES => k_is)
    (case zg_Committee => k_is)
    (case zg_Game => k_is)
    (case zg_Ranking => k_is)
    (case zg_Turns => k_is)
    (case zg_InvalidCommittee => k_is)
    (case zg_InvalidGame => k_is)
    (case zg_InvalidRanking => k_is)
    (case zg_InvalidTurns => k_is)
    (case zg_NoPlace => k_is)
    (case zg_UnknownName => k_is)
    (case z0n => k_is)
    (case z0t => k_is)
    (case o1_Committee => k_is)
    (case o2_Committee => k_is)
    (case o3_Committee => k_is)
    (case o4_Committee => k_is)
    (case o5_Committee => k_is)
    (case o6_Committee => k_is)
    (case o7_Committee => k_is)
    (case o1_Game => k_is)
    (case o2_Game => k_is)
    (case o3_Game => k_is)
    (case o4_Game => k_is)
    (case o5_Game => k_is)
    (case o6_Game => k_is)
    (case o7_Game => k_is)
    (case o1_Ranking => k_is)
    (case o2_Ranking => k_is)
    (case o3_Ranking => k_is)
    (case o4_Ranking => k_is)
    (case o5_Ranking => k_is)
    (case o6_Ranking => k_is)
    (case o7_Ranking => k_is)
    (case o1_Turns => k_is)
    (case o2_Turns => k_is)
    (case o3_Turns => k_is)
    (case o4_Turns => k_is)
    (case o5_Turns => k_is)
    (case o6_Turns => k_is)
    (case o7_Turns => k_is)
    (case zn_Committee_own_members => k_is)
    (case zn_Game_own_rankings => k_is)
    (case zn_Game_own_turns => k_is)
    (case zn_Ranking_order => k_is)
    (case zn_Ranking_places => k_is)
    (case zn_Turns_order => k_is)
    (case ab_Strategy => k_is)
    (case ab_Optimal => k_is)
    (case ab_Sincere => k_is)
    (case ab_Fixed => k_is)
    (case ab_Noted => k_is)
    (case ab_Striker => k_is)
    (case ab_Keeper => k_is)
    (case ab_Assigning => k_is)
    (case ab_Trial => k_is)
    (case ab_Room => k_is)
    (case ab_Console => k_is)
    (case kt_Committee_str => first | k_is | rfl | kernel_rfl | decide +kernel)
    (case kt_Committee_list => first | k_is | rfl | kernel_rfl | decide +kernel)
    (case kt_Committee_int => first | k_is | rfl | kernel_rfl | decide +kernel)
    (case kt_Committee_bool => first | k_is | rfl | kernel_rfl | decide +kernel)
    (case kt_Committee_dict => first | k_is | rfl | kernel_rfl | decide +kernel)
    (case kt_Committee_tuple => first | k_is | rfl | kernel_rfl | decide +kernel)
    (case kb_Committee_NoneType => first | k_is | rfl | kernel_rfl | decide +kernel)
    (case kn_Committee_NoneType => k_is)
    (case kb_Committee_bool => first | k_is | rfl | kernel_rfl | decide +kernel)
    (case kn_Committee_bool => k_is)
    (case kb_Committee_int => first | k_is | rfl | kernel_rfl | decide +kernel)
    (case kn_Committee_int => k_is)
    (case kb_Committee_str => first | k_is | rfl | kernel_rfl | decide +kernel)
    (case kn_Committee_str => k_is)
    (case kb_Committee_list => first | k_is | rfl | kernel_rfl | decide +kernel)
    (case kn_Committee_list => k_is)
    (case kb_Committee_tuple => first | k_is | rfl | kernel_rfl | decide +kernel)
    (case kn_Committee_tuple => k_is)
    (case kb_Committee_dict => first | k_is | rfl | kernel_rfl | decide +kernel)
    (case kn_Committee_dict => k_is)
    (case kd_Committee_Committee => first | k_is | rfl | kernel_rfl | decide +kernel)
    (case ko_Committee_Committee => k_is)
    (case kd_Committee_Ranking => first | k_is | rfl | kernel_rfl | decide +kernel)
    (case ko_Committee_Ranking => k_is)
    (case kd_Committee_Turns => first | k_is | rfl | kernel_rfl | decide +kernel)
    (case ko_Committee_Turns => k_is)
    (case kd_Committee_Game => first | k_is | rfl | kernel_rfl | decide +kernel)
    (case ko_Committee_Game => k_is)
    (case kt_Ranking_str => first | k_is | rfl | kernel_rfl | decide +kernel)
    (case kt_Ranking_list => first | k_is | rfl | kernel_rfl | decide +kernel)
    (case kt_Ranking_int => first | k_is | rfl | kernel_rfl | decide +kernel)
    (case kt_Ranking_bool => first | k_is | rfl | kernel_rfl | decide +kernel)
    (case kt_Ranking_dict => first | k_is | rfl | kernel_rfl | decide +kernel)
    (case kt_Ranking_tuple => first | k_is | rfl | kernel_rfl | decide +kernel)
    (case kb_Ranking_NoneType => first | k_is | rfl | kernel_rfl | decide +kernel)
    (case kn_Ranking_NoneType => k_is)
    (case kb_Ranking_bool => first | k_is | rfl | kernel_rfl | decide +kernel)
    (case kn_Ranking_bool => k_is)
    (case kb_Ranking_int => first | k_is | rfl | kernel_rfl | decide +kernel)
    (case kn_Ranking_int => k_is)
    (case kb_Ranking_str => first | k_is | rfl | kernel_rfl | decide +kernel)
    (case kn_Ranking_str => k_is)
    (case kb_Ranking_list => first | k_is | rfl | kernel_rfl | decide +kernel)
    (case kn_Ranking_list => k_is)
    (case kb_Ranking_tuple => first | k_is | rfl | kernel_rfl | decide +kernel)
    (case kn_Ranking_tuple => k_is)
    (case kb_Ranking_dict => first | k_is | rfl | kernel_rfl | decide +kernel)
    (case kn_Ranking_dict => k_is)
    (case kd_Ranking_Committee => first | k_is | rfl | kernel_rfl | decide +kernel)
    (case ko_Ranking_Committee => k_is)
    (case kd_Ranking_Ranking => first | k_is | rfl | kernel_rfl | decide +kernel)
    (case ko_Ranking_Ranking => k_is)
    (case kd_Ranking_Turns => first | k_is | rfl | kernel_rfl | decide +kernel)
    (case ko_Ranking_Turns => k_is)
    (case kd_Ranking_Game => first | k_is | rfl | kernel_rfl | decide +kernel)
    (case ko_Ranking_Game => k_is)
    (case kt_Turns_str => first | k_is | rfl | kernel_rfl | decide +kernel)
    (case kt_Turns_list => first | k_is | rfl | kernel_rfl | decide +kernel)
    (case kt_Turns_int => first | k_is | rfl | kernel_rfl | decide +kernel)
    (case kt_Turns_bool => first | k_is | rfl | kernel_rfl | decide +kernel)
    (case kt_Turns_dict => first | k_is | rfl | kernel_rfl | decide +kernel)
    (case kt_Turns_tuple => first | k_is | rfl | kernel_rfl | decide +kernel)
    (case kb_Turns_NoneType => first | k_is | rfl | kernel_rfl | decide +kernel)
    (case kn_Turns_NoneType => k_is)
    (case kb_Turns_bool => first | k_is | rfl | kernel_rfl | decide +kernel)
    (case kn_Turns_bool => k_is)
    (case kb_Turns_int => first | k_is | rfl | kernel_rfl | decide +kernel)
    (case kn_Turns_int => k_is)
    (case kb_Turns_str => first | k_is | rfl | kernel_rfl | decide +kernel)
    (case kn_Turns_str => k_is)
    (case kb_Turns_list => first | k_is | rfl | kernel_rfl | decide +kernel)
    (case kn_Turns_list => k_is)
    (case kb_Turns_tuple => first | k_is | rfl | kernel_rfl | decide +kernel)
    (case kn_Turns_tuple => k_is)
    (case kb_Turns_dict => first | k_is | rfl | kernel_rfl | decide +kernel)
    (case kn_Turns_dict => k_is)
    (case kd_Turns_Committee => first | k_is | rfl | kernel_rfl | decide +kernel)
    (case ko_Turns_Committee => k_is)
    (case kd_Turns_Ranking => first | k_is | rfl | kernel_rfl | decide +kernel)
    (case ko_Turns_Ranking => k_is)
    (case kd_Turns_Turns => first | k_is | rfl | kernel_rfl | decide +kernel)
    (case ko_Turns_Turns => k_is)
    (case kd_Turns_Game => first | k_is | rfl | kernel_rfl | decide +kernel)
    (case ko_Turns_Game => k_is)
    (case kt_Game_str => first | k_is | rfl | kernel_rfl | decide +kernel)
    (case kt_Game_list => first | k_is | rfl | kernel_rfl | decide +kernel)
    (case kt_Game_int => first | k_is | rfl | kernel_rfl | decide +kernel)
    (case kt_Game_bool => first | k_is | rfl | kernel_rfl | decide +kernel)
    (case kt_Game_dict => first | k_is | rfl | kernel_rfl | decide +kernel)
    (case kt_Game_tuple => first | k_is | rfl | kernel_rfl | decide +kernel)
    (case kb_Game_NoneType => first | k_is | rfl | kernel_rfl | decide +kernel)
    (case kn_Game_NoneType => k_is)
    (case kb_Game_bool => first | k_is | rfl | kernel_rfl | decide +kernel)
    (case kn_Game_bool => k_is)
    (case kb_Game_int => first | k_is | rfl | kernel_rfl | decide +kernel)
    (case kn_Game_int => k_is)
    (case kb_Game_str => first | k_is | rfl | kernel_rfl | decide +kernel)
    (case kn_Game_str => k_is)
    (case kb_Game_list => first | k_is | rfl | kernel_rfl | decide +kernel)
    (case kn_Game_list => k_is)
    (case kb_Game_tuple => first | k_is | rfl | kernel_rfl | decide +kernel)
    (case kn_Game_tuple => k_is)
    (case kb_Game_dict => first | k_is | rfl | kernel_rfl | decide +kernel)
    (case kn_Game_dict => k_is)
    (case kd_Game_Committee => first | k_is | rfl | kernel_rfl | decide +kernel)
    (case ko_Game_Committee => k_is)
    (case kd_Game_Ranking => first | k_is | rfl | kernel_rfl | decide +kernel)
    (case ko_Game_Ranking => k_is)
    (case kd_Game_Turns => first | k_is | rfl | kernel_rfl | decide +kernel)
    (case ko_Game_Turns => k_is)
    (case kd_Game_Game => first | k_is | rfl | kernel_rfl | decide +kernel)
    (case ko_Game_Game => k_is)
    (case fa__law_stream => k_is)
    (case l__law_stream => k_is)
    (case k__law_stream => k_is)
    (case e__law_stream => k_is)
    (case fa__law_draw => k_is)
    (case l__law_draw => k_is)
    (case k__law_draw => k_is)
    (case e__law_draw => k_is)
    (case fa__law_names => k_is)
    (case l__law_names => k_is)
    (case k__law_names => k_is)
    (case e__law_names => k_is)
    (case fa__law_shuffled => k_is)
    (case l__law_shuffled => k_is)
    (case k__law_shuffled => k_is)
    (case e__law_shuffled => k_is)
    (case fa__law_choose => k_is)
    (case l__law_choose => k_is)
    (case k__law_choose => k_is)
    (case e__law_choose => k_is)
    (case fa__law_drawn => k_is)
    (case l__law_drawn => k_is)
    (case k__law_drawn => k_is)
    (case e__law_drawn => k_is)
    (case fa_is_name => k_is)
    (case l_is_name => k_is)
    (case k_is_name => k_is)
    (case e_is_name => k_is)
    (case fa_Committee___eq__ => k_is)
    (case fb_Committee___eq__ => k_is)
    (case l_Committee___eq__ => k_is)
    (case k_Committee___eq__ => k_is)
    (case e_Committee___eq__ => k_is)
    (case fa_distinct => k_is)
    (case l_distinct => k_is)
    (case k_distinct => k_is)
    (case e_distinct => k_is)
    (case fa_are_names => k_is)
    (case l_are_names => k_is)
    (case k_are_names => k_is)
    (case e_are_names => k_is)
    (case fa_Committee___init__ => k_is)
    (case fb_Committee___init__ => k_is)
    (case fm1_Committee___init__ => k_is)
    (case fm2_Committee___init__ => k_is)
    (case l_Committee___init__ => k_is)
    (case k_Committee___init__ => k_is)
    (case e_Committee___init__ => k_is)
    (case fa_Ranking_alternatives => k_is)
    (case fb_Ranking_alternatives => k_is)
    (case fc_Ranking_alternatives => k_is)
    (case fd_Ranking_alternatives => k_is)
    (case l_Ranking_alternatives => k_is)
    (case k_Ranking_alternatives => k_is)
    (case e_Ranking_alternatives => k_is)
    (case fa_as_committee => k_is)
    (case l_as_committee => k_is)
    (case k_as_committee => k_is)
    (case e_as_committee => k_is)
    (case fa_check_rankings => k_is)
    (case l_check_rankings => k_is)
    (case k_check_rankings => k_is)
    (case e_check_rankings => k_is)
    (case fa_Turns___len__ => k_is)
    (case fb_Turns___len__ => k_is)
    (case l_Turns___len__ => k_is)
    (case k_Turns___len__ => k_is)
    (case e_Turns___len__ => k_is)
    (case fa_Game_first_ranking => k_is)
    (case fb_Game_first_ranking => k_is)
    (case l_Game_first_ranking => k_is)
    (case k_Game_first_ranking => k_is)
    (case e_Game_first_ranking => k_is)
    (case fa_Ranking___len__ => k_is)
    (case fb_Ranking___len__ => k_is)
    (case l_Ranking___len__ => k_is)
    (case k_Ranking___len__ => k_is)
    (case e_Ranking___len__ => k_is)
    (case fa_Turns_players => k_is)
    (case fb_Turns_players => k_is)
    (case fc_Turns_players => k_is)
    (case fd_Turns_players => k_is)
    (case l_Turns_players => k_is)
    (case k_Turns_players => k_is)
    (case e_Turns_players => k_is)
    (case fa_Game_check_turns => k_is)
    (case fb_Game_check_turns => k_is)
    (case l_Game_check_turns => k_is)
    (case k_Game_check_turns => k_is)
    (case e_Game_check_turns => k_is)
    (case fa_Game___init__ => k_is)
    (case fb_Game___init__ => k_is)
    (case fm1_Game___init__ => k_is)
    (case fm2_Game___init__ => k_is)
    (case l_Game___init__ => k_is)
    (case k_Game___init__ => k_is)
    (case e_Game___init__ => k_is)
    (case fa_Turns___init__ => k_is)
    (case fb_Turns___init__ => k_is)
    (case fm1_Turns___init__ => k_is)
    (case fm2_Turns___init__ => k_is)
    (case l_Turns___init__ => k_is)
    (case k_Turns___init__ => k_is)
    (case e_Turns___init__ => k_is)
    (case fa_Ranking___init__ => k_is)
    (case fb_Ranking___init__ => k_is)
    (case fm1_Ranking___init__ => k_is)
    (case fm2_Ranking___init__ => k_is)
    (case l_Ranking___init__ => k_is)
    (case k_Ranking___init__ => k_is)
    (case e_Ranking___init__ => k_is)
    (case fa__law_made => k_is)
    (case l__law_made => k_is)
    (case k__law_made => k_is)
    (case e__law_made => k_is)
    (case fa_Committee___sub__ => k_is)
    (case fb_Committee___sub__ => k_is)
    (case l_Committee___sub__ => k_is)
    (case k_Committee___sub__ => k_is)
    (case e_Committee___sub__ => k_is)
    (case fa_Game_alternatives => k_is)
    (case fb_Game_alternatives => k_is)
    (case fc_Game_alternatives => k_is)
    (case fd_Game_alternatives => k_is)
    (case l_Game_alternatives => k_is)
    (case k_Game_alternatives => k_is)
    (case e_Game_alternatives => k_is)
    (case fa_Game_turns => k_is)
    (case fb_Game_turns => k_is)
    (case fc_Game_turns => k_is)
    (case fd_Game_turns => k_is)
    (case l_Game_turns => k_is)
    (case k_Game_turns => k_is)
    (case e_Game_turns => k_is)
    (case fa_Committee_members => k_is)
    (case fb_Committee_members => k_is)
    (case fc_Committee_members => k_is)
    (case fd_Committee_members => k_is)
    (case l_Committee_members => k_is)
    (case k_Committee_members => k_is)
    (case e_Committee_members => k_is)
    (case fa_Ranking___and__ => k_is)
    (case fb_Ranking___and__ => k_is)
    (case l_Ranking___and__ => k_is)
    (case k_Ranking___and__ => k_is)
    (case e_Ranking___and__ => k_is)
    (case fa_is_number => k_is)
    (case l_is_number => k_is)
    (case k_is_number => k_is)
    (case e_is_number => k_is)
    (case fa_Ranking___getitem__ => k_is)
    (case fb_Ranking___getitem__ => k_is)
    (case fi0_Ranking___getitem__ => k_is)
    (case l_Ranking___getitem__ => k_is)
    (case k_Ranking___getitem__ => k_is)
    (case e_Ranking___getitem__ => k_is)
    (case fa_Ranking_worst => k_is)
    (case fb_Ranking_worst => k_is)
    (case l_Ranking_worst => k_is)
    (case k_Ranking_worst => k_is)
    (case e_Ranking_worst => k_is)
    (case fa_Game_ranking_of => k_is)
    (case fb_Game_ranking_of => k_is)
    (case l_Game_ranking_of => k_is)
    (case k_Game_ranking_of => k_is)
    (case e_Game_ranking_of => k_is)
    (case fa_backward_pass => k_is)
    (case l_backward_pass => k_is)
    (case k_backward_pass => k_is)
    (case e_backward_pass => k_is)
    (case fa_outcome => k_is)
    (case l_outcome => k_is)
    (case k_outcome => k_is)
    (case e_outcome => k_is)
    (case fa_account => k_is)
    (case l_account => k_is)
    (case k_account => k_is)
    (case e_account => k_is)
    (case fa__law_raised => k_is)
    (case l__law_raised => k_is)
    (case k__law_raised => k_is)
    (case e__law_raised => k_is)
    (case fa_law => k_is)
    (case l_law => k_is)
    (case k_law => k_is)
    (case e_law => k_is)
    (case zne_Committee => k_is)
    (case r1_Ranking_Committee_BitAnd => k_is)
    (case r2_Ranking_Committee_BitAnd => k_is)
    (case r3_Ranking_Committee_BitAnd => k_is)
    (case r4_Ranking_Committee_BitAnd => decide)
    (case fa_Committee___and__ => k_is)
    (case zx_InvalidCommittee => k_exc)
    (case zk_InvalidCommittee => k_is)
    (case zs_InvalidCommittee => k_is)
    (case zt_InvalidCommittee => k_is)
    (case zx_InvalidGame => k_exc)
    (case zk_InvalidGame => k_is)
    (case zs_InvalidGame => k_is)
    (case zt_InvalidGame => k_is)
    (case zx_InvalidRanking => k_exc)
    (case zk_InvalidRanking => k_is)
    (case zs_InvalidRanking => k_is)
    (case zt_InvalidRanking => k_is)
    (case zx_InvalidTurns => k_exc)
    (case zk_InvalidTurns => k_is)
    (case zs_InvalidTurns => k_is)
    (case zt_InvalidTurns => k_is)
    (case zk_NoPlace => k_is)
    (case zs_NoPlace => k_is)
    (case zt_NoPlace => k_is)
    (case zi5_NoPlace => k_is)
    (case zi1_NoPlace => first | kx_is | k_is | k_exc)
    (case zi2_NoPlace => first | kx_is | k_is | k_exc)
    (case zi3_NoPlace => k_is)
    (case zi4_NoPlace => k_is)
    (case zi6_NoPlace => k_is)
    (case ze3_NoPlace => k_is)
    (case zi8_NoPlace => ks_is)
    (case zi9_NoPlace => k_is)
    (case ziA_NoPlace => k_is)
    (case ziB_NoPlace => k_is)
    (case ziC_NoPlace => first | rfl | decide +kernel)
    (case ziD_NoPlace => k_is)
    (case ziE_NoPlace => k_is)
    (case ziF_NoPlace => k_is)
    (case ziG_NoPlace => rfl)
    (case ziH_NoPlace => first | rfl | decide +kernel)
    (case ziI_NoPlace => k_is)
    (case zk_UnknownName => k_is)
    (case zs_UnknownName => k_is)
    (case zt_UnknownName => k_is)
    (case zi5_UnknownName => k_is)
    (case zi1_UnknownName => first | kx_is | k_is | k_exc)
    (case zi2_UnknownName => first | kx_is | k_is | k_exc)
    (case zi3_UnknownName => k_is)
    (case zi4_UnknownName => k_is)
    (case zi6_UnknownName => k_is)
    (case ze3_UnknownName => k_is)
    (case zi8_UnknownName => ks_is)
    (case zi9_UnknownName => k_is)
    (case ziA_UnknownName => k_is)
    (case ziB_UnknownName => k_is)
    (case ziC_UnknownName => first | rfl | decide +kernel)
    (case ziD_UnknownName => k_is)
    (case ziE_UnknownName => k_is)
    (case ziF_UnknownName => k_is)
    (case ziG_UnknownName => rfl)
    (case ziH_UnknownName => first | rfl | decide +kernel)
    (case ziI_UnknownName => k_is)
end
