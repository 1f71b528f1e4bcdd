import PyProof.Rows.All
import Wide.All
import OpenK.AllK
import Wide.FinOn
import KE.KStateDown
import HandS.ForMost
import HandS.Flow
import HandS.Conv
import HandS.IsInst
import HandS.Wide
import HandS.Style
import HandS.More
import HandS.SortInts
import HandS.Defaults
import HandS.Rev
import HandS.TupAny
import HandS.Ends
import HandS.Head0
import HandS.Head1
import HandS.Head2
import HandS.HeadEnd
import HandS.HeadHook1
import HandS.HeadHook2
import PySem.Challenge.RW_keptjoined_k47_bounds_of_the_counts
set_option Elab.async false
set_option linter.all false
set_option maxRecDepth 100000
set_option maxHeartbeats 1000000
/-! J1: a second reading, over data: trees of values in place of addresses, and a small map of the objects that change. -/
namespace J
open PySem PySem.Spec PyProof.Rows L2

/-! ### data -/
inductive D where
  | non | bl (b : Bool) | int (i : Int) | str (x : Str) | ty (n : String) | ref (a : Addr)
  | tup (xs : List D) | lst (xs : List D) | rol (xs : List D) | dct (kvs : List (Key × D)) | ins (C : Addr) (fs : List (Str × D))

/-- an object that may still change -/
inductive MO where
  | lst (xs : List D) | dct (kvs : List (Key × D)) | ins (C : Addr) (fs : List (Str × D))
abbrev Mu := Addr → Option MO
def mup (μ : Mu) (a : Addr) (o : MO) : Mu := fun b => if b = a then some o else μ b
theorem mup_same {μ : Mu} {a : Addr} {o : MO} : mup μ a o a = some o := if_pos rfl
theorem mup_ne {μ : Mu} {a b : Addr} {o : MO} (h : b ≠ a) : mup μ a o b = μ b := if_neg h
theorem mup_mup {μ : Mu} {a : Addr} {o u : MO} : mup (mup μ a o) a u = mup μ a u := by
  funext b; unfold mup; split <;> rfl
theorem mup_self {μ : Mu} {a : Addr} {o : MO} (h : μ a = some o) : mup μ a o = μ := by
  funext b; unfold mup; split
  · next e => rw [e, h]
  · rfl
def mdel (μ : Mu) (a : Addr) : Mu := fun b => if b = a then none else μ b

mutual
inductive Rep (K : PySem.W.Frag) (F : Hp) : V → D → Prop
  | non : Rep K F .non .non
  | bl {b} : Rep K F (.bl b) (.bl b)
  | int {i} : Rep K F (.int i) (.int i)
  | str {x} : Rep K F (.str x) (.str x)
  | ty {n} : Rep K F (.ty n) (.ty n)
  | ref {a} : Rep K F (.ref a) (.ref a)
  | tup {a vs ds} : SqT K F a vs → Reps K F vs ds → Rep K F (.ref a) (.tup ds)
  | lst {a vs ds} : F a = some (.lst vs) → Reps K F vs ds → Rep K F (.ref a) (.lst ds)
  | rol {a vs ds} : SqL K F a vs → Reps K F vs ds → Rep K F (.ref a) (.rol ds)
  | dct {a kvs kds} : F a = some (.dK kvs) → RepK K F kvs kds → Rep K F (.ref a) (.dct kds)
  | ins {a C dx fs fds} : F a = some (.ins C dx fs) → RepF K F fs fds → Rep K F (.ref a) (.ins C fds)
inductive Reps (K : PySem.W.Frag) (F : Hp) : List V → List D → Prop
  | nil : Reps K F [] []
  | cons {v d vs ds} : Rep K F v d → Reps K F vs ds → Reps K F (v :: vs) (d :: ds)
inductive RepK (K : PySem.W.Frag) (F : Hp) : List (Key × V) → List (Key × D) → Prop
  | nil : RepK K F [] []
  | cons {k v d vs ds} : Rep K F v d → RepK K F vs ds → RepK K F ((k, v) :: vs) ((k, d) :: ds)
inductive RepF (K : PySem.W.Frag) (F : Hp) : List (Str × V) → List (Str × D) → Prop
  | nil : RepF K F [] []
  | cons {k v d vs ds} : Rep K F v d → RepF K F vs ds → RepF K F ((k, v) :: vs) ((k, d) :: ds)
end

section
variable {K : PySem.W.Frag} {F F' : Hp}
theorem sqt_mono {a : Addr} {xs : List V} (e : Same F F') (h : SqT K F a xs) : SqT K F' a xs := by
  rcases h with (h | ⟨o, h⟩) | h
  · exact .inl (.inl (e _ _ h))
  · exact .inl (.inr ⟨o, e _ _ h⟩)
  · exact .inr h
mutual
theorem Rep.mono (e : Same F F') {v : V} {d : D} (h : Rep K F v d) : Rep K F' v d := by
  cases h with
  | non => exact .non
  | bl => exact .bl
  | int => exact .int
  | str => exact .str
  | ty => exact .ty
  | ref => exact .ref
  | tup h r => exact .tup (sqt_mono e h) (Reps.mono e r)
  | lst h r => exact .lst (e _ _ h) (Reps.mono e r)
  | rol h r => exact .rol (e.seq h) (Reps.mono e r)
  | dct h r => exact .dct (e _ _ h) (RepK.mono e r)
  | ins h r => exact .ins (e _ _ h) (RepF.mono e r)
theorem Reps.mono (e : Same F F') {v : List V} {d : List D} (h : Reps K F v d) : Reps K F' v d := by
  cases h with
  | nil => exact .nil
  | cons h r => exact .cons (Rep.mono e h) (Reps.mono e r)
theorem RepK.mono (e : Same F F') {v : List (Key × V)} {d : List (Key × D)} (h : RepK K F v d) : RepK K F' v d := by
  cases h with
  | nil => exact .nil
  | cons h r => exact .cons (Rep.mono e h) (RepK.mono e r)
theorem RepF.mono (e : Same F F') {v : List (Str × V)} {d : List (Str × D)} (h : RepF K F v d) : RepF K F' v d := by
  cases h with
  | nil => exact .nil
  | cons h r => exact .cons (Rep.mono e h) (RepF.mono e r)
end
theorem Reps.length : ∀ {vs : List V} {ds : List D}, Reps K F vs ds → vs.length = ds.length
  | _, _, .nil => rfl
  | _, _, .cons _ r => congrArg (· + 1) (Reps.length r)
theorem Reps.get : ∀ {vs : List V} {ds : List D} {i : Nat} {d : D}, Reps K F vs ds → ds[i]? = some d → ∃ v, vs[i]? = some v ∧ Rep K F v d
  | _, _, _, _, .nil, e => by simp at e
  | _, _, 0, _, .cons r _, e => by simp at e; subst e; exact ⟨_, rfl, r⟩
  | _, _, i + 1, d, .cons _ t, e => by
    obtain ⟨u, h1, h2⟩ := Reps.get (i := i) (d := d) t (by simpa using e)
    exact ⟨u, by simpa using h1, h2⟩
theorem Reps.append : ∀ {vs ws : List V} {ds es : List D}, Reps K F vs ds → Reps K F ws es → Reps K F (vs ++ ws) (ds ++ es)
  | _, _, _, _, .nil, s => s
  | _, _, _, _, .cons r t, s => .cons r (Reps.append t s)
theorem Reps.set {v : V} {d : D} (r : Rep K F v d) : ∀ {vs : List V} {ds : List D} (i : Nat), Reps K F vs ds → Reps K F (vs.set i v) (ds.set i d)
  | _, _, _, .nil => .nil
  | _, _, 0, .cons _ t => .cons r t
  | _, _, i + 1, .cons q t => .cons q (Reps.set r i t)
theorem Reps.take : ∀ {vs : List V} {ds : List D} (n : Nat), Reps K F vs ds → Reps K F (vs.take n) (ds.take n)
  | _, _, 0, _ => .nil
  | _, _, _ + 1, .nil => .nil
  | _, _, n + 1, .cons r t => .cons r (Reps.take n t)
theorem Reps.drop : ∀ {vs : List V} {ds : List D} (n : Nat), Reps K F vs ds → Reps K F (vs.drop n) (ds.drop n)
  | _, _, 0, r => r
  | _, _, _ + 1, .nil => .nil
  | _, _, n + 1, .cons _ t => Reps.drop n t
theorem Reps.dropLast {vs : List V} {ds : List D} (h : Reps K F vs ds) : Reps K F vs.dropLast ds.dropLast := by
  rw [List.dropLast_eq_take, List.dropLast_eq_take, h.length]
  exact h.take _
theorem Reps.reverse : ∀ {vs : List V} {ds : List D}, Reps K F vs ds → Reps K F vs.reverse ds.reverse
  | _, _, .nil => .nil
  | _, _, .cons r t => by
    rw [List.reverse_cons, List.reverse_cons]
    exact (Reps.reverse t).append (.cons r .nil)
theorem Reps.ints : ∀ {vs : List V} {ns : List Int}, Reps K F vs (ns.map D.int) → vs = ns.map V.int
  | _, [], .nil => rfl
  | _, n :: ns, .cons r t => by
    cases r
    rw [Reps.ints t]; rfl
theorem Reps.strs : ∀ {vs : List V} {ns : List Str}, Reps K F vs (ns.map D.str) → vs = ns.map V.str
  | _, [], .nil => rfl
  | _, n :: ns, .cons r t => by
    cases r
    rw [Reps.strs t]; rfl
theorem Reps.bls : ∀ {vs : List V} {ns : List Bool}, Reps K F vs (ns.map D.bl) → vs = ns.map V.bl
  | _, [], .nil => rfl
  | _, n :: ns, .cons r t => by
    cases r
    rw [Reps.bls t]; rfl
theorem Reps.of_ints : ∀ (ns : List Int), Reps K F (ns.map V.int) (ns.map D.int)
  | [] => .nil
  | _ :: ns => .cons .int (Reps.of_ints ns)
theorem Reps.of_strs : ∀ (ns : List Str), Reps K F (ns.map V.str) (ns.map D.str)
  | [] => .nil
  | _ :: ns => .cons .str (Reps.of_strs ns)
end

/-! ### the world: what is settled (F), what stands (H), what may change (μ) -/
inductive RepM (K : PySem.W.Frag) (F : Hp) : HO → MO → Prop
  | lst {vs ds} : Reps K F vs ds → RepM K F (.lst vs) (.lst ds)
  | dct {vs ds} : RepK K F vs ds → RepM K F (.dK vs) (.dct ds)
  | ins {C dx vs ds} : RepF K F vs ds → RepM K F (.ins C dx vs) (.ins C ds)
theorem RepM.mono {K : PySem.W.Frag} {F F' : Hp} (e : Same F F') {v : HO} {d : MO} (h : RepM K F v d) : RepM K F' v d := by
  cases h with
  | lst r => exact .lst (r.mono e)
  | dct r => exact .dct (r.mono e)
  | ins r => exact .ins (r.mono e)
structure Wd (K : PySem.W.Frag) (F H : Hp) (μ : Mu) : Prop where
  sub : Same F H
  mts : ∀ a o, μ a = some o → F a = none ∧ ∃ ho, H a = some ho ∧ RepM K F ho o
structure Gr (F H : Hp) (μ : Mu) (F' H' : Hp) (μ' : Mu) : Prop where
  ff : Same F F'
  fr : ∀ b o, H b = some o → F b = none → μ b = none → H' b = some o ∧ F' b = none ∧ μ' b = none
theorem Gr.refl {F H : Hp} {μ : Mu} : Gr F H μ F H μ := ⟨Same.refl _, fun _ _ a b c => ⟨a, b, c⟩⟩
theorem Gr.trans {F H F1 H1 F2 H2 : Hp} {μ μ1 μ2 : Mu} (a : Gr F H μ F1 H1 μ1) (b : Gr F1 H1 μ1 F2 H2 μ2) : Gr F H μ F2 H2 μ2 :=
  ⟨a.ff.trans b.ff, fun x o h1 h2 h3 => by obtain ⟨p, q, r⟩ := a.fr x o h1 h2 h3; exact b.fr x o p q r⟩
abbrev Sg := List (Option D)
abbrev Sv := L2.St
def RepO (K : PySem.W.Frag) (F : Hp) : Option V → Option D → Prop
  | some v, some d => Rep K F v d
  | _, none => True
  | none, some _ => False
abbrev RepE (K : PySem.W.Frag) (F : Hp) : Sv → Sg → Prop := Paired (RepO K F)
theorem RepE.mono {K : PySem.W.Frag} {F F' : Hp} (e : Same F F') {σ : Sv} {δ : Sg} (h : RepE K F σ δ) : RepE K F' σ δ :=
  Paired.mapP h fun a b r => by
    cases a <;> cases b <;> first | exact Rep.mono e r | exact r
theorem RepE.get {K : PySem.W.Frag} {F : Hp} : ∀ {σ : Sv} {δ : Sg} {i : Nat} {d : D}, RepE K F σ δ → δ[i]? = some (some d) → ∃ v, σ[i]? = some (some v) ∧ Rep K F v d
  | _, _, _, _, .nil, e => by simp at e
  | (some v) :: _, _, 0, d, .cons r _, e => by
    simp at e
    subst e
    exact ⟨v, rfl, r⟩
  | none :: _, _, 0, d, .cons r _, e => by
    simp at e
    subst e
    exact r.elim
  | _, _, i + 1, d, .cons _ t, e => by
    obtain ⟨u, h1, h2⟩ := RepE.get (i := i) (d := d) t (by simpa using e)
    exact ⟨u, by simpa using h1, h2⟩
theorem RepE.set {K : PySem.W.Frag} {F : Hp} {v : V} {d : D} (r : Rep K F v d) : ∀ {σ : Sv} {δ : Sg} (i : Nat), RepE K F σ δ → RepE K F (σ.set i (some v)) (δ.set i (some d))
  | _, _, _, .nil => .nil
  | _, _, 0, .cons _ t => .cons r t
  | _, _, i + 1, .cons q t => .cons q (RepE.set r i t)
theorem RepE.wipe1 {K : PySem.W.Frag} {F : Hp} : ∀ {σ : Sv} {δ : Sg} (i : Nat), RepE K F σ δ → RepE K F (σ.set i none) (δ.set i none)
  | _, _, _, .nil => .nil
  | _, _, 0, .cons _ t => .cons trivial t
  | _, _, i + 1, .cons q t => .cons q (RepE.wipe1 i t)
/-- what is carried along: a wish of the world that every growth keeps (the wish of exceptions) -/
structure Zw where
  p : Hp → Hp → Mu → Prop
  up : ∀ {F H μ F' H' μ'}, p F H μ → Gr F H μ F' H' μ' → p F' H' μ'
def Z0 : Zw := ⟨fun _ _ _ => True, fun _ _ => trivial⟩
structure Mt (K : PySem.W.Frag) (Z : Zw) (F : Hp) (σ : Sv) (H : Hp) (δ : Sg) (μ : Mu) : Prop where
  wd : Wd K F H μ
  env : RepE K F σ δ
  z : Z.p F H μ
theorem Mt.step {K : PySem.W.Frag} {Z : Zw} {F H F' H' : Hp} {σ : Sv} {δ : Sg} {μ μ' : Mu} (m : Mt K Z F σ H δ μ) (g : Gr F H μ F' H' μ') (w : Wd K F' H' μ') : Mt K Z F' σ H' δ μ' :=
  ⟨w, m.env.mono g.ff, Z.up m.z g⟩

/-! ### small moves of the world -/
section
variable {K : PySem.W.Frag} {F H : Hp} {μ : Mu}
/-- a new settled object -/
theorem Wd.settle {p : Addr} {o : HO} (w : Wd K F H μ) (hp : H p = none) : Wd K (upd F p o) (upd H p o) μ ∧ Gr F H μ (upd F p o) (upd H p o) μ ∧ F p = none := by
  have fp : F p = none := by
    cases h : F p with
    | none => rfl
    | some u => rw [w.sub p u h] at hp; cases hp
  have ff : Same F (upd F p o) := fun b u e => by rw [upd_ne (ne_of_none e fp)]; exact e
  refine ⟨⟨fun b u e => ?_, fun a u e => ?_⟩, ⟨ff, fun b u h1 h2 h3 => ?_⟩, fp⟩
  · by_cases hb : b = p
    · subst hb; rw [upd_same] at e ⊢; exact e
    · rw [upd_ne hb] at e ⊢; exact w.sub b u e
  · obtain ⟨h1, ho, h2, h3⟩ := w.mts a u e
    have ha : a ≠ p := ne_of_none h2 hp
    exact ⟨by rw [upd_ne ha]; exact h1, ho, by rw [upd_ne ha]; exact h2, h3.mono ff⟩
  · have hb : b ≠ p := ne_of_none h1 hp
    exact ⟨by rw [upd_ne hb]; exact h1, by rw [upd_ne hb]; exact h2, h3⟩
/-- a new object that may change -/
theorem Wd.fresh {p : Addr} {o : HO} {m : MO} (w : Wd K F H μ) (hp : H p = none) (r : RepM K F o m) : Wd K F (upd H p o) (mup μ p m) ∧ Gr F H μ F (upd H p o) (mup μ p m) ∧ μ p = none := by
  have fp : F p = none := by
    cases h : F p with
    | none => rfl
    | some u => rw [w.sub p u h] at hp; cases hp
  have mp : μ p = none := by
    cases h : μ p with
    | none => rfl
    | some u =>
      obtain ⟨_, ho, h2, _⟩ := w.mts p u h
      rw [h2] at hp; cases hp
  refine ⟨⟨fun b u e => ?_, fun a u e => ?_⟩, ⟨Same.refl _, fun b u h1 h2 h3 => ?_⟩, mp⟩
  · have hb : b ≠ p := ne_of_none e fp
    rw [upd_ne hb]; exact w.sub b u e
  · by_cases ha : a = p
    · subst ha
      rw [mup_same] at e; cases e
      exact ⟨fp, o, upd_same, r⟩
    · rw [mup_ne ha] at e
      obtain ⟨h1, ho, h2, h3⟩ := w.mts a u e
      exact ⟨h1, ho, by rw [upd_ne ha]; exact h2, h3⟩
  · have hb : b ≠ p := ne_of_none h1 hp
    exact ⟨by rw [upd_ne hb]; exact h1, h2, by rw [mup_ne hb]; exact h3⟩
/-- an object changed -/
theorem Wd.write {p : Addr} {o : HO} {m m0 : MO} (w : Wd K F H μ) (hm : μ p = some m0) (r : RepM K F o m) : Wd K F (upd H p o) (mup μ p m) ∧ Gr F H μ F (upd H p o) (mup μ p m) := by
  obtain ⟨fp, _, _, _⟩ := w.mts p m0 hm
  refine ⟨⟨fun b u e => ?_, fun a u e => ?_⟩, ⟨Same.refl _, fun b u h1 h2 h3 => ?_⟩⟩
  · have hb : b ≠ p := ne_of_none e fp
    rw [upd_ne hb]; exact w.sub b u e
  · by_cases ha : a = p
    · subst ha
      rw [mup_same] at e; cases e
      exact ⟨fp, o, upd_same, r⟩
    · rw [mup_ne ha] at e
      obtain ⟨h1, ho, h2, h3⟩ := w.mts a u e
      exact ⟨h1, ho, by rw [upd_ne ha]; exact h2, h3⟩
  · have hb : b ≠ p := fun z => by rw [z, hm] at h3; cases h3
    exact ⟨by rw [upd_ne hb]; exact h1, h2, by rw [mup_ne hb]; exact h3⟩
end
end J

namespace J
open PySem PySem.Spec PyProof.Rows L2

/-! ### readings over data -/
abbrev QE := D → Mu → Prop
abbrev TE2 := Sg → Mu → QE → Prop
abbrev TT2 := Sg → Mu → (Bool → Mu → Prop) → Prop
abbrev TA2 := Sg → Mu → (List D → Mu → Prop) → Prop
structure Ends2 where
  nx : Sg → Mu → Prop
  rt : QE
  bk : Sg → Mu → Prop := fun _ _ => False
  ct : Sg → Mu → Prop := fun _ _ => False
abbrev TS2 := Ends2 → Sg → Mu → Prop
/-- an operation on values -/
abbrev O1 := D → Mu → QE → Prop
abbrev O2 := D → D → Mu → QE → Prop
abbrev OA := List D → Mu → QE → Prop
abbrev OM := D → List D → Mu → QE → Prop

section
variable (K : PySem.W.Frag) (Z : Zw)
def lowE (t : TE2) : TE := fun σ H Q => ∃ F δ μ Q0, Mt K Z F σ H δ μ ∧ t δ μ Q0 ∧ ∀ d μ' F' H' v, Q0 d μ' → Gr F H μ F' H' μ' → Wd K F' H' μ' → Rep K F' v d → Q v H'
def lowT (t : TT2) : TT := fun σ H Q => ∃ F δ μ Q0, Mt K Z F σ H δ μ ∧ t δ μ Q0 ∧ ∀ b μ' F' H', Q0 b μ' → Gr F H μ F' H' μ' → Wd K F' H' μ' → Q b H'
def lowA (t : TA2) : TA := fun σ H Q => ∃ F δ μ Q0, Mt K Z F σ H δ μ ∧ t δ μ Q0 ∧ ∀ ds μ' F' H' vs, Q0 ds μ' → Gr F H μ F' H' μ' → Wd K F' H' μ' → Reps K F' vs ds → Q vs H'
/-- the ends of statements -/
structure EI (F H : Hp) (μ : Mu) (D2 : Ends2) (D : Ends) : Prop where
  nx : ∀ δ' μ' F' σ' H', D2.nx δ' μ' → Gr F H μ F' H' μ' → Mt K Z F' σ' H' δ' μ' → D.nx σ' H'
  rt : ∀ d μ' F' H' v, D2.rt d μ' → Gr F H μ F' H' μ' → Wd K F' H' μ' → Rep K F' v d → D.rt v H'
  bk : ∀ δ' μ' F' σ' H', D2.bk δ' μ' → Gr F H μ F' H' μ' → Mt K Z F' σ' H' δ' μ' → D.bk σ' H'
  ct : ∀ δ' μ' F' σ' H', D2.ct δ' μ' → Gr F H μ F' H' μ' → Mt K Z F' σ' H' δ' μ' → D.ct σ' H'
def lowS (t : TS2) : TS := fun D σ H => ∃ F δ μ D2, Mt K Z F σ H δ μ ∧ t D2 δ μ ∧ EI K Z F H μ D2 D
/-- an operation's: the values as they lie -/
def lowO1 (r : O1) : V → Hp → VK → Prop := fun x H Q => ∃ F μ d Q0, Wd K F H μ ∧ Rep K F x d ∧ r d μ Q0 ∧ ∀ d' μ' F' H' v, Q0 d' μ' → Gr F H μ F' H' μ' → Wd K F' H' μ' → Rep K F' v d' → Q v H'
def lowO2 (r : O2) : R2 := fun x y H Q => ∃ F μ d e Q0, Wd K F H μ ∧ Rep K F x d ∧ Rep K F y e ∧ r d e μ Q0 ∧ ∀ d' μ' F' H' v, Q0 d' μ' → Gr F H μ F' H' μ' → Wd K F' H' μ' → Rep K F' v d' → Q v H'
def lowOA (r : OA) : List V → Hp → VK → Prop := fun xs H Q => ∃ F μ ds Q0, Wd K F H μ ∧ Reps K F xs ds ∧ r ds μ Q0 ∧ ∀ d' μ' F' H' v, Q0 d' μ' → Gr F H μ F' H' μ' → Wd K F' H' μ' → Rep K F' v d' → Q v H'
def lowOM (r : OM) : V → List V → Hp → VK → Prop := fun x xs H Q => ∃ F μ d ds Q0, Wd K F H μ ∧ Rep K F x d ∧ Reps K F xs ds ∧ r d ds μ Q0 ∧ ∀ d' μ' F' H' v, Q0 d' μ' → Gr F H μ F' H' μ' → Wd K F' H' μ' → Rep K F' v d' → Q v H'
end
theorem EI.step {K : PySem.W.Frag} {Z : Zw} {F H F1 H1 : Hp} {μ μ1 : Mu} {D2 : Ends2} {D : Ends} (e : EI K Z F H μ D2 D) (g : Gr F H μ F1 H1 μ1) : EI K Z F1 H1 μ1 D2 D :=
  ⟨fun δ' μ' F' σ' H' h g' m => e.nx δ' μ' F' σ' H' h (g.trans g') m, fun d μ' F' H' v h g' w r => e.rt d μ' F' H' v h (g.trans g') w r,
   fun δ' μ' F' σ' H' h g' m => e.bk δ' μ' F' σ' H' h (g.trans g') m, fun δ' μ' F' σ' H' h g' m => e.ct δ' μ' F' σ' H' h (g.trans g') m⟩

/-! ### weaker readings -/
section
variable {X : Cx}
theorem pe_imp {e : Expr} {t t' : TE} (h : PE X e t) (i : ∀ σ H Q, t' σ H Q → t σ H Q) : PE X e t' := ⟨fun pins s σ H Q I q => h.run pins s σ H Q I (i _ _ _ q)⟩
theorem pt_imp {e : Expr} {t t' : TT} (h : PT X e t) (i : ∀ σ H Q, t' σ H Q → t σ H Q) : PT X e t' := ⟨fun pins s σ H Q I q => h.run pins s σ H Q I (i _ _ _ q)⟩
theorem pw_imp {e : Expr} {t t' : TT} (h : PW X e t) (i : ∀ σ H Q, t' σ H Q → t σ H Q) : PW X e t' := ⟨fun wh pins s σ H Q I q => h.run wh pins s σ H Q I (i _ _ _ q)⟩
theorem pa_imp {e : List Expr} {t t' : TA} (h : PA X e t) (i : ∀ σ H Q, t' σ H Q → t σ H Q) : PA X e t' := ⟨fun pos pins s σ H Q I q => h.run pos pins s σ H Q I (i _ _ _ q)⟩
theorem ps_imp {e : Stmt} {t t' : TS} (h : PS X e t) (i : ∀ D σ H, t' D σ H → t D σ H) : PS X e t' := ⟨fun pins s σ H D I q => h.run pins s σ H D I (i _ _ _ q)⟩
theorem pss_imp {e : List Stmt} {t t' : TS} (h : PSs X e t) (i : ∀ D σ H, t' D σ H → t D σ H) : PSs X e t' := ⟨fun pins s σ H D I q => h.run pins s σ H D I (i _ _ _ q)⟩
theorem pg_imp {e : Expr} {t t' : TG} (h : PG X e t) (i : ∀ v σ H Q, t' v σ H Q → t v σ H Q) : PG X e t' := ⟨fun pins s σ H v u Q I r q => h.run pins s σ H v u Q I r (i _ _ _ _ q)⟩
end

section
variable {X : Cx} {Z : Zw}
abbrev E2 (X : Cx) (Z : Zw) (e : Expr) (t : TE2) : Prop := PE X e (lowE X.K Z t)
abbrev T2 (X : Cx) (Z : Zw) (e : Expr) (t : TT2) : Prop := PT X e (lowT X.K Z t)
abbrev W2 (X : Cx) (Z : Zw) (e : Expr) (t : TT2) : Prop := PW X e (lowT X.K Z t)
abbrev A2 (X : Cx) (Z : Zw) (e : List Expr) (t : TA2) : Prop := PA X e (lowA X.K Z t)
abbrev S2 (X : Cx) (Z : Zw) (e : Stmt) (t : TS2) : Prop := PS X e (lowS X.K Z t)
abbrev B2 (X : Cx) (Z : Zw) (e : List Stmt) (t : TS2) : Prop := PSs X e (lowS X.K Z t)

/-! ### names, constants -/
def jVar (i : Nat) : TE2 := fun δ μ Q => ∃ d, δ[i]? = some (some d) ∧ Q d μ
def jC (d : D) : TE2 := fun _ μ Q => Q d μ
theorem jv (i : Nat) {x : Str} {pos : Pos} (hN : X.N[i]? = some x := by rfl) (hv : Vis X.env.scope x := by first | exact Or.inl rfl | exact Or.inr (Or.inl rfl) | exact Or.inr (Or.inr rfl)) (hd : (x == ("__debug__" : Str)) = false := by decide)
    (hcd : (x == ("__classdict__" : Str)) = false := by decide) : E2 X Z (.Name x pos) (jVar i) := by
  refine pe_imp (pe_var hN hv hd hcd) ?_
  rintro σ H Q ⟨F, δ, μ, Q0, m, ⟨d, e, q⟩, k⟩
  obtain ⟨v, e1, r⟩ := m.env.get e
  exact ⟨v, e1, k d μ F H v q .refl m.wd r⟩
theorem jc_of {e : Expr} {v : V} {d : D} (h : PE X e (tC v)) (r : ∀ F, Rep X.K F v d) : E2 X Z e (jC d) := by
  refine pe_imp h ?_
  rintro σ H Q ⟨F, δ, μ, Q0, m, q, k⟩
  exact k d μ F H v q .refl m.wd (r F)
theorem jint {i j pos} : E2 X Z (.Constant (.int i) j pos) (jC (.int i)) := jc_of pe_int fun _ => .int
theorem jbl {i j pos} : E2 X Z (.Constant (.bool i) j pos) (jC (.bl i)) := jc_of pe_bl fun _ => .bl
theorem jnon {j pos} : E2 X Z (.Constant .none j pos) (jC .non) := jc_of pe_non fun _ => .non
theorem jstr {x j pos} : E2 X Z (.Constant (.str x) j pos) (jC (.str x)) := jc_of pe_str fun _ => .str
theorem jglob {x : Str} {v : V} {d : D} {u : Value} {pos : Pos} (hg : Gl X x) (hm : X.mg x = some u) (r : RelV v u) (r2 : ∀ F, Rep X.K F v d) (hd : (x == ("__debug__" : Str)) = false := by decide) : E2 X Z (.Name x pos) (jC d) := jc_of (pe_glob hg hm r hd) r2
theorem jbltn {x : Str} {n : String} {pos : Pos} (hg : Gl X x) (hm : X.mg x = none) (hv : bootBuiltins x = some (.type n)) (hn : x ≠ "__name__" := by decide) (hd : (x == ("__debug__" : Str)) = false := by decide) : E2 X Z (.Name x pos) (jC (.ty n)) :=
  jc_of (pe_bltn (v := .ty n) hg hm hv rfl hn hd) fun _ => .ty

/-! ### operators -/
def jOp (r : O2) (ta tb : TE2) : TE2 := fun δ μ Q => ta δ μ fun x μ1 => tb δ μ1 fun y μ2 => r x y μ2 Q
def jUn (r : O1) (ta : TE2) : TE2 := fun δ μ Q => ta δ μ fun x μ1 => r x μ1 Q
theorem low_op {K : PySem.W.Frag} {r : O2} {ta tb : TE2} {σ : Sv} {H : Hp} {Q : VK} (h : lowE K Z (jOp r ta tb) σ H Q) : lowE K Z ta σ H fun x H1 => lowE K Z tb σ H1 fun y H2 => lowO2 K r x y H2 Q := by
  obtain ⟨F, δ, μ, Q0, m, q, k⟩ := h
  refine ⟨F, δ, μ, _, m, q, ?_⟩
  intro x μ1 F1 H1 v q1 g1 w1 r1
  refine ⟨F1, δ, μ1, _, m.step g1 w1, q1, ?_⟩
  intro y μ2 F2 H2 u q2 g2 w2 r2
  refine ⟨F2, μ2, x, y, Q0, w2, r1.mono g2.ff, r2, q2, ?_⟩
  intro z μ3 F3 H3 v3 q3 g3 w3 r3
  exact k z μ3 F3 H3 v3 q3 ((g1.trans g2).trans g3) w3 r3
theorem low_un {K : PySem.W.Frag} {r : O1} {ta : TE2} {σ : Sv} {H : Hp} {Q : VK} (h : lowE K Z (jUn r ta) σ H Q) : lowE K Z ta σ H fun x H1 => lowO1 K r x H1 Q := by
  obtain ⟨F, δ, μ, Q0, m, q, k⟩ := h
  refine ⟨F, δ, μ, _, m, q, ?_⟩
  intro x μ1 F1 H1 v q1 g1 w1 r1
  refine ⟨F1, μ1, x, Q0, w1, r1, q1, ?_⟩
  intro z μ3 F3 H3 v3 q3 g3 w3 r3
  exact k z μ3 F3 H3 v3 q3 (g1.trans g3) w3 r3
theorem jop {a b : Expr} {op : Operator} {pos : Pos} {r : O2} {ta tb : TE2} (ho : OpR X (binaryOp op) (lowO2 X.K r)) (ha : E2 X Z a ta) (hb : E2 X Z b tb) : E2 X Z (.BinOp a op b pos) (jOp r ta tb) :=
  pe_imp (pe_op ho ha hb) fun _ _ _ h => low_op h
theorem jun {a : Expr} {op : UnaryOp} {pos : Pos} {r : O1} {ta : TE2} (ho : UnR X (unaryOp op) (lowO1 X.K r)) (ha : E2 X Z a ta) : E2 X Z (.UnaryOp op a pos) (jUn r ta) :=
  pe_imp (pe_un ho ha) fun _ _ _ h => low_un h
/-- comparisons: as values, as tests -/
def jTest (t : TE2) : TT2 := fun δ μ Q => t δ μ fun x μ1 => ∃ k, x = .bl k ∧ Q k μ1
theorem low_test {K : PySem.W.Frag} {t : TE2} {σ : Sv} {H : Hp} {Q : Bool → Hp → Prop} (h : lowT K Z (jTest t) σ H Q) : lowE K Z t σ H fun x H' => ∃ k, x = .bl k ∧ Q k H' := by
  obtain ⟨F, δ, μ, Q0, m, q, k⟩ := h
  refine ⟨F, δ, μ, _, m, q, ?_⟩
  rintro x μ1 F1 H1 v ⟨b, rfl, q1⟩ g1 w1 r1
  cases r1
  exact ⟨b, rfl, k b μ1 F1 H1 q1 g1 w1⟩
theorem jcmp {a b : Expr} {op : CmpOp} {pos : Pos} {r : O2} {ta tb : TE2} (ho : OpR X (compareOp op) (lowO2 X.K r)) (ha : E2 X Z a ta) (hb : E2 X Z b tb) (hm : behindInMarks op b = false) : E2 X Z (.Compare a [op] [b] pos) (jOp r ta tb) :=
  pe_imp (pe_cmpR ho ha hb hm) fun _ _ _ h => low_op h
theorem jtcmp {a b : Expr} {op : CmpOp} {pos : Pos} {r : O2} {ta tb : TE2} (ho : OpR X (compareOp op) (lowO2 X.K r)) (ha : E2 X Z a ta) (hb : E2 X Z b tb) (hm : behindInMarks op b = false) : T2 X Z (.Compare a [op] [b] pos) (jTest (jOp r ta tb)) :=
  pt_imp (pt_cmpR ho ha hb hm) fun _ _ _ h => low_op (low_test h)
/-- a value that is a bool, as a test -/
theorem jtval {e : Expr} {t : TE2} (h : E2 X Z e t) (he : ∀ whole, isTrue e X.env whole = (do let v ← whole; standAt e.pos; holding [v] (truthy v)) := by intro _; rfl) : T2 X Z e (jTest t) :=
  pt_imp (pt_val h he) fun _ _ _ q => low_test q
/-- a < b < c -/
def jChain (r r' : O2) (ta tb tc : TE2) : TE2 := fun δ μ Q => ta δ μ fun x μ1 => tb δ μ1 fun y μ2 => r x y μ2 fun z μ3 => ∃ k, z = .bl k ∧ (if k = true then tc δ μ3 fun w μ4 => r' y w μ4 Q else Q (.bl false) μ3)
theorem low_chain {K : PySem.W.Frag} {r r' : O2} {ta tb tc : TE2} {σ : Sv} {H : Hp} {Q : VK} (h : lowE K Z (jChain r r' ta tb tc) σ H Q) : tChain (lowO2 K r) (lowO2 K r') (lowE K Z ta) (lowE K Z tb) (lowE K Z tc) σ H Q := by
  obtain ⟨F, δ, μ, Q0, m, q, k⟩ := h
  refine ⟨F, δ, μ, _, m, q, ?_⟩
  intro x μ1 F1 H1 v q1 g1 w1 r1
  refine ⟨F1, δ, μ1, _, m.step g1 w1, q1, ?_⟩
  intro y μ2 F2 H2 u q2 g2 w2 r2
  refine ⟨F2, μ2, x, y, _, w2, r1.mono g2.ff, r2, q2, ?_⟩
  rintro z μ3 F3 H3 v3 ⟨b, rfl, q3⟩ g3 w3 r3
  cases r3
  refine ⟨b, rfl, ?_⟩
  have m3 := (m.step g1 w1).step (g2.trans g3) w3
  cases b with
  | true =>
    rw [if_pos rfl] at q3 ⊢
    refine ⟨F3, δ, μ3, _, m3, q3, ?_⟩
    intro z4 μ4 F4 H4 v4 q4 g4 w4 r4
    refine ⟨F4, μ4, y, z4, _, w4, (r2.mono g3.ff).mono g4.ff, r4, q4, ?_⟩
    intro z5 μ5 F5 H5 v5 q5 g5 w5 r5
    exact k z5 μ5 F5 H5 v5 q5 ((((g1.trans g2).trans g3).trans g4).trans g5) w5 r5
  | false =>
    rw [if_neg Bool.false_ne_true] at q3 ⊢
    exact k _ μ3 F3 H3 _ q3 ((g1.trans g2).trans g3) w3 .bl

theorem jchain {a b c : Expr} {op op' : CmpOp} {pos : Pos} {r r' : O2} {ta tb tc : TE2} (ho : OpR X (compareOp op) (lowO2 X.K r)) (ho' : OpR X (compareOp op') (lowO2 X.K r')) (ha : E2 X Z a ta) (hb : E2 X Z b tb) (hc : E2 X Z c tc)
    (hm : lastMarks [op, op'] [b, c] = false := by with_unfolding_all rfl) : E2 X Z (.Compare a [op, op'] [b, c] pos) (jChain r r' ta tb tc) := pe_imp (pe_chain ho ho' ha hb hc hm) fun _ _ _ h => low_chain h
theorem jtchain {a b c : Expr} {op op' : CmpOp} {pos : Pos} {r r' : O2} {ta tb tc : TE2} (ho : OpR X (compareOp op) (lowO2 X.K r)) (ho' : OpR X (compareOp op') (lowO2 X.K r')) (ha : E2 X Z a ta) (hb : E2 X Z b tb) (hc : E2 X Z c tc)
    (hm : lastMarks [op, op'] [b, c] = false := by with_unfolding_all rfl) : T2 X Z (.Compare a [op, op'] [b, c] pos) (jTest (jChain r r' ta tb tc)) := pt_imp (pt_chain ho ho' ha hb hc hm) fun _ _ _ h => low_chain (low_test h)

/-! ### and, or, not, if .. else -/
def jAnd (t u : TT2) : TT2 := fun δ μ Q => t δ μ fun c μ1 => if c = true then u δ μ1 Q else Q false μ1
def jOr (t u : TT2) : TT2 := fun δ μ Q => t δ μ fun c μ1 => if c = true then Q true μ1 else u δ μ1 Q
def jNot (t : TT2) : TT2 := fun δ μ Q => t δ μ fun c μ1 => Q (!c) μ1
theorem jw1 {op : BoolOp} {a : Expr} {pos : Pos} {t : TT2} (h : PW X (.BoolOp op [a] pos) (lowT X.K Z t)) : W2 X Z (.BoolOp op [a] pos) t := h
theorem jwand {a b : Expr} {rest : List Expr} {pos : Pos} {t u : TT2} (ha : T2 X Z a t) (hb : W2 X Z (.BoolOp .And (b :: rest) pos) u) : W2 X Z (.BoolOp .And (a :: b :: rest) pos) (jAnd t u) := by
  refine pw_imp (pw_and ha hb) ?_
  rintro σ H Q ⟨F, δ, μ, Q0, m, q, k⟩
  refine ⟨F, δ, μ, _, m, q, ?_⟩
  rintro b μ1 F1 H1 q1 g1 w1
  cases b with
  | true =>
    rw [if_pos rfl] at q1 ⊢
    exact ⟨F1, δ, μ1, Q0, m.step g1 w1, q1, fun b μ2 F2 H2 q2 g2 w2 => k b μ2 F2 H2 q2 (g1.trans g2) w2⟩
  | false =>
    rw [if_neg Bool.false_ne_true] at q1 ⊢
    exact k false μ1 F1 H1 q1 g1 w1
theorem jwor {a b : Expr} {rest : List Expr} {pos : Pos} {t u : TT2} (ha : T2 X Z a t) (hb : W2 X Z (.BoolOp .Or (b :: rest) pos) u) : W2 X Z (.BoolOp .Or (a :: b :: rest) pos) (jOr t u) := by
  refine pw_imp (pw_or ha hb) ?_
  rintro σ H Q ⟨F, δ, μ, Q0, m, q, k⟩
  refine ⟨F, δ, μ, _, m, q, ?_⟩
  rintro b μ1 F1 H1 q1 g1 w1
  cases b with
  | true =>
    rw [if_pos rfl] at q1 ⊢
    exact k true μ1 F1 H1 q1 g1 w1
  | false =>
    rw [if_neg Bool.false_ne_true] at q1 ⊢
    exact ⟨F1, δ, μ1, Q0, m.step g1 w1, q1, fun b μ2 F2 H2 q2 g2 w2 => k b μ2 F2 H2 q2 (g1.trans g2) w2⟩
theorem jtnot {a : Expr} {pos : Pos} {t : TT2} (ha : T2 X Z a t) : T2 X Z (.UnaryOp .Not a pos) (jNot t) := by
  refine pt_imp (pt_not ha) ?_
  rintro σ H Q ⟨F, δ, μ, Q0, m, q, k⟩
  exact ⟨F, δ, μ, _, m, q, fun b μ1 F1 H1 q1 g1 w1 => k (!b) μ1 F1 H1 q1 g1 w1⟩
/-- as values, of bools -/
def jAndV (ta tb : TE2) : TE2 := fun δ μ Q => ta δ μ fun x μ1 => ∃ c, x = .bl c ∧ if c = true then tb δ μ1 Q else Q (.bl false) μ1
def jOrV (ta tb : TE2) : TE2 := fun δ μ Q => ta δ μ fun x μ1 => ∃ c, x = .bl c ∧ if c = true then Q (.bl true) μ1 else tb δ μ1 Q
def jNotV (ta : TE2) : TE2 := fun δ μ Q => ta δ μ fun x μ1 => ∃ c, x = .bl c ∧ Q (.bl (!c)) μ1
theorem jone {op : BoolOp} {a : Expr} {pos : Pos} {t : TE2} (h : E2 X Z a t) : E2 X Z (.BoolOp op [a] pos) t := pe_one h
theorem jand {a b : Expr} {rest : List Expr} {pos : Pos} {ta tb : TE2} (ha : E2 X Z a ta) (hb : E2 X Z (.BoolOp .And (b :: rest) pos) tb) : E2 X Z (.BoolOp .And (a :: b :: rest) pos) (jAndV ta tb) := by
  refine pe_imp (pe_and ha hb) ?_
  rintro σ H Q ⟨F, δ, μ, Q0, m, q, k⟩
  refine ⟨F, δ, μ, _, m, q, ?_⟩
  rintro x μ1 F1 H1 v ⟨b, rfl, q1⟩ g1 w1 r1
  cases r1
  refine ⟨b, rfl, ?_⟩
  cases b with
  | true =>
    rw [if_pos rfl] at q1 ⊢
    exact ⟨F1, δ, μ1, Q0, m.step g1 w1, q1, fun d μ2 F2 H2 v2 q2 g2 w2 r2 => k d μ2 F2 H2 v2 q2 (g1.trans g2) w2 r2⟩
  | false =>
    rw [if_neg Bool.false_ne_true] at q1 ⊢
    exact k _ μ1 F1 H1 _ q1 g1 w1 .bl
theorem jor {a b : Expr} {rest : List Expr} {pos : Pos} {ta tb : TE2} (ha : E2 X Z a ta) (hb : E2 X Z (.BoolOp .Or (b :: rest) pos) tb) : E2 X Z (.BoolOp .Or (a :: b :: rest) pos) (jOrV ta tb) := by
  refine pe_imp (pe_or ha hb) ?_
  rintro σ H Q ⟨F, δ, μ, Q0, m, q, k⟩
  refine ⟨F, δ, μ, _, m, q, ?_⟩
  rintro x μ1 F1 H1 v ⟨b, rfl, q1⟩ g1 w1 r1
  cases r1
  refine ⟨b, rfl, ?_⟩
  cases b with
  | true =>
    rw [if_pos rfl] at q1 ⊢
    exact k _ μ1 F1 H1 _ q1 g1 w1 .bl
  | false =>
    rw [if_neg Bool.false_ne_true] at q1 ⊢
    exact ⟨F1, δ, μ1, Q0, m.step g1 w1, q1, fun d μ2 F2 H2 v2 q2 g2 w2 r2 => k d μ2 F2 H2 v2 q2 (g1.trans g2) w2 r2⟩
theorem jnot {a : Expr} {pos : Pos} {ta : TE2} (ha : E2 X Z a ta) : E2 X Z (.UnaryOp .Not a pos) (jNotV ta) := by
  refine pe_imp (pe_not ha) ?_
  rintro σ H Q ⟨F, δ, μ, Q0, m, q, k⟩
  refine ⟨F, δ, μ, _, m, q, ?_⟩
  rintro x μ1 F1 H1 v ⟨b, rfl, q1⟩ g1 w1 r1
  cases r1
  exact ⟨b, rfl, k _ μ1 F1 H1 _ q1 g1 w1 .bl⟩
def jIf (t : TT2) (ta tb : TE2) : TE2 := fun δ μ Q => t δ μ fun c μ1 => if c = true then ta δ μ1 Q else tb δ μ1 Q
theorem jife {c a b : Expr} {pos : Pos} {t : TT2} {ta tb : TE2} (hc : T2 X Z c t) (ha : E2 X Z a ta) (hb : E2 X Z b tb) : E2 X Z (.IfExp c a b pos) (jIf t ta tb) := by
  refine pe_imp (pe_ifExp hc ha hb) ?_
  rintro σ H Q ⟨F, δ, μ, Q0, m, q, k⟩
  refine ⟨F, δ, μ, _, m, q, ?_⟩
  rintro b μ1 F1 H1 q1 g1 w1
  cases b with
  | true =>
    rw [if_pos rfl] at q1 ⊢
    exact ⟨F1, δ, μ1, Q0, m.step g1 w1, q1, fun d μ2 F2 H2 v2 q2 g2 w2 r2 => k d μ2 F2 H2 v2 q2 (g1.trans g2) w2 r2⟩
  | false =>
    rw [if_neg Bool.false_ne_true] at q1 ⊢
    exact ⟨F1, δ, μ1, Q0, m.step g1 w1, q1, fun d μ2 F2 H2 v2 q2 g2 w2 r2 => k d μ2 F2 H2 v2 q2 (g1.trans g2) w2 r2⟩

/-! ### argument lists and displays -/
def jNil : TA2 := fun _ μ Q => Q [] μ
def jCons (ta : TE2) (tr : TA2) : TA2 := fun δ μ Q => ta δ μ fun x μ1 => tr δ μ1 fun xs μ2 => Q (x :: xs) μ2
theorem ja0 : A2 X Z [] jNil := by
  refine pa_imp pa_nil ?_
  rintro σ H Q ⟨F, δ, μ, Q0, m, q, k⟩
  exact k [] μ F H [] q .refl m.wd .nil
theorem ja {e : Expr} {es : List Expr} {te : TE2} {t : TA2} (ha : E2 X Z e te) (hr : A2 X Z es t) (hs : starEach (e :: es) X.env = (false, eval e X.env) :: starEach es X.env := by rfl) : A2 X Z (e :: es) (jCons te t) := by
  refine pa_imp (pa_cons ha hr hs) ?_
  rintro σ H Q ⟨F, δ, μ, Q0, m, q, k⟩
  refine ⟨F, δ, μ, _, m, q, ?_⟩
  intro x μ1 F1 H1 v q1 g1 w1 r1
  refine ⟨F1, δ, μ1, _, m.step g1 w1, q1, ?_⟩
  intro xs μ2 F2 H2 vs q2 g2 w2 r2
  exact k (x :: xs) μ2 F2 H2 (v :: vs) q2 (g1.trans g2) w2 (.cons (r1.mono g2.ff) r2)
/-- a new list: settled, or one that may change -/
def NewL (xs : List D) (μ : Mu) (Q : QE) : Prop := Q (.lst xs) μ ∨ ∀ p, μ p = none → Q (.ref p) (mup μ p (.lst xs))
/-- a new dict -/
def NewD (xs : List (Key × D)) (μ : Mu) (Q : QE) : Prop := Q (.dct xs) μ ∨ ∀ p, μ p = none → Q (.ref p) (mup μ p (.dct xs))
theorem newL_ok {K : PySem.W.Frag} {F H : Hp} {μ : Mu} {xs : List D} {vs : List V} {Q0 : QE} {Q : VK} {p : Addr} (w : Wd K F H μ) (hp : H p = none) (r : Reps K F vs xs) (n : NewL xs μ Q0)
    (k : ∀ d μ' F' H' v, Q0 d μ' → Gr F H μ F' H' μ' → Wd K F' H' μ' → Rep K F' v d → Q v H') : Q (.ref p) (upd H p (.lst vs)) := by
  rcases n with n | n
  · obtain ⟨w1, g1, fp⟩ := w.settle (o := .lst vs) hp
    exact k _ μ _ _ _ n g1 w1 (.lst upd_same (r.mono g1.ff))
  · obtain ⟨w1, g1, mp⟩ := w.fresh hp (.lst r)
    exact k _ _ _ _ _ (n p mp) g1 w1 .ref
theorem newD_ok {K : PySem.W.Frag} {F H : Hp} {μ : Mu} {xs : List (Key × D)} {vs : List (Key × V)} {Q0 : QE} {Q : VK} {p : Addr} (w : Wd K F H μ) (hp : H p = none) (r : RepK K F vs xs) (n : NewD xs μ Q0)
    (k : ∀ d μ' F' H' v, Q0 d μ' → Gr F H μ F' H' μ' → Wd K F' H' μ' → Rep K F' v d → Q v H') : Q (.ref p) (upd H p (.dK vs)) := by
  rcases n with n | n
  · obtain ⟨w1, g1, fp⟩ := w.settle (o := .dK vs) hp
    exact k _ μ _ _ _ n g1 w1 (.dct upd_same (r.mono g1.ff))
  · obtain ⟨w1, g1, mp⟩ := w.fresh hp (.dct r)
    exact k _ _ _ _ _ (n p mp) g1 w1 .ref
theorem newT_ok {K : PySem.W.Frag} {F H : Hp} {μ : Mu} {xs : List D} {vs : List V} {Q0 : QE} {Q : VK} {p : Addr} (w : Wd K F H μ) (hp : H p = none) (r : Reps K F vs xs) (n : Q0 (.tup xs) μ)
    (k : ∀ d μ' F' H' v, Q0 d μ' → Gr F H μ F' H' μ' → Wd K F' H' μ' → Rep K F' v d → Q v H') : Q (.ref p) (upd H p (.tup vs)) := by
  obtain ⟨w1, g1, fp⟩ := w.settle (o := .tup vs) hp
  exact k _ μ _ _ _ n g1 w1 (.tup (SqT.of upd_same) (r.mono g1.ff))
def jTup (t : TA2) : TE2 := fun δ μ Q => t δ μ fun xs μ1 => xs.length ≤ sizeLine ∧ Q (.tup xs) μ1
def jLst (t : TA2) : TE2 := fun δ μ Q => t δ μ fun xs μ1 => xs.length ≤ sizeLine ∧ NewL xs μ1 Q
theorem jtup {es : List Expr} {pos : Pos} {x1} {t : TA2} (h : A2 X Z es t) : E2 X Z (.Tuple es x1 pos) (jTup t) := by
  refine pe_imp (pe_tup h) ?_
  rintro σ H Q ⟨F, δ, μ, Q0, m, q, k⟩
  refine ⟨F, δ, μ, _, m, q, ?_⟩
  rintro xs μ1 F1 H1 vs ⟨hl, q1⟩ g1 w1 r1
  refine ⟨by rw [r1.length]; exact hl, fun p hp => ?_⟩
  exact newT_ok w1 hp r1 q1 fun d μ' F' H' v q' g' w' r' => k d μ' F' H' v q' (g1.trans g') w' r'
theorem jlst {es : List Expr} {pos : Pos} {t : TA2} (h : A2 X Z es t) : E2 X Z (.List es pos) (jLst t) := by
  refine pe_imp (pe_lst h) ?_
  rintro σ H Q ⟨F, δ, μ, Q0, m, q, k⟩
  refine ⟨F, δ, μ, _, m, q, ?_⟩
  rintro xs μ1 F1 H1 vs ⟨hl, q1⟩ g1 w1 r1
  refine ⟨by rw [r1.length]; exact hl, fun p hp => ?_⟩
  exact newL_ok w1 hp r1 q1 fun d μ' F' H' v q' g' w' r' => k d μ' F' H' v q' (g1.trans g') w' r'

/-! ### calls of built-ins, subscripts, methods of built-in types -/
def jCB (r : OA) (t : TA2) : TE2 := fun δ μ Q => t δ μ fun ds μ1 => r ds μ1 Q
theorem low_cb {K : PySem.W.Frag} {r : OA} {t : TA2} {σ : Sv} {H : Hp} {Q : VK} (h : lowE K Z (jCB r t) σ H Q) : lowA K Z t σ H fun xs H1 => lowOA K r xs H1 Q := by
  obtain ⟨F, δ, μ, Q0, m, q, k⟩ := h
  refine ⟨F, δ, μ, _, m, q, ?_⟩
  intro xs μ1 F1 H1 vs q1 g1 w1 r1
  exact ⟨F1, μ1, xs, Q0, w1, r1, q1, fun d μ' F' H' v q' g' w' r' => k d μ' F' H' v q' (g1.trans g') w' r'⟩
theorem jcallB {x : Str} {id : String} {r : OA} {e : Expr} {es : List Expr} {t : TA2} {p pos : Pos} (hc : CallR X (.builtin id) (lowOA X.K r)) (hg : Gl X x) (hm : X.mg x = none) (hv : bootBuiltins x = some (.builtin id)) (ha : A2 X Z (e :: es) t)
    (h : PE X (.Call (.Name x p) (e :: es) [] pos) (tCB (lowOA X.K r) (lowA X.K Z t))) : E2 X Z (.Call (.Name x p) (e :: es) [] pos) (jCB r t) := pe_imp h fun _ _ _ q => low_cb q
theorem jix {a b : Expr} {pos : Pos} {r : O2} {ta tb : TE2} (hr : IxR X (lowO2 X.K r)) (ha : E2 X Z a ta) (hb : E2 X Z b tb) (hs : PlainIx b) : E2 X Z (.Subscript a b pos) (jOp r ta tb) :=
  pe_imp (pe_ix hr ha hb hs) fun _ _ _ h => low_op h
def jIf0 : Bool := true

/-! ### statements -/
def jNext : TS2 := fun D δ μ => D.nx δ μ
def jSeq (t u : TS2) : TS2 := fun D δ μ => t { D with nx := u D } δ μ
theorem jb0 : B2 X Z [] jNext := by
  refine pss_imp pss_nil ?_
  rintro D σ H ⟨F, δ, μ, D2, m, q, e⟩
  exact e.nx δ μ F σ H q .refl m
theorem jb {st : Stmt} {rest : List Stmt} {t u : TS2} (h1 : S2 X Z st t) (h2 : B2 X Z rest u) : B2 X Z (st :: rest) (jSeq t u) := by
  refine pss_imp (pss_cons h1 h2) ?_
  rintro D σ H ⟨F, δ, μ, D2, m, q, e⟩
  refine ⟨F, δ, μ, _, m, q, ?_, e.rt, e.bk, e.ct⟩
  intro δ' μ' F' σ' H' q' g' m'
  exact ⟨F', δ', μ', D2, m', q', e.step g'⟩
theorem jb1 {st : Stmt} {t : TS2} (h1 : S2 X Z st t) : B2 X Z [st] t := pss_one h1
def jBreak : TS2 := fun D δ μ => D.bk δ μ
def jCont : TS2 := fun D δ μ => D.ct δ μ
theorem js_pass {pos : Pos} : S2 X Z (.Pass pos) jNext := by
  refine ps_imp ps_pass ?_
  rintro D σ H ⟨F, δ, μ, D2, m, q, e⟩
  exact e.nx δ μ F σ H q .refl m
theorem js_break {pos : Pos} : S2 X Z (.Break pos) jBreak := by
  refine ps_imp ps_break ?_
  rintro D σ H ⟨F, δ, μ, D2, m, q, e⟩
  exact e.bk δ μ F σ H q .refl m
theorem js_cont {pos : Pos} : S2 X Z (.Continue pos) jCont := by
  refine ps_imp ps_continue ?_
  rintro D σ H ⟨F, δ, μ, D2, m, q, e⟩
  exact e.ct δ μ F σ H q .refl m
def jDrop (t : TE2) : TS2 := fun D δ μ => t δ μ fun _ μ1 => D.nx δ μ1
theorem js_expr {e : Expr} {pos : Pos} {t : TE2} (he : E2 X Z e t) (hs : swapsWith e none pos.line X.env = pure false := by rfl) : S2 X Z (.Expr e pos) (jDrop t) := by
  refine ps_imp (ps_expr he hs) ?_
  rintro D σ H ⟨F, δ, μ, D2, m, q, e⟩
  exact ⟨F, δ, μ, _, m, q, fun d μ' F' H' v q' g' w' r' => e.nx δ μ' F' σ H' q' g' (m.step g' w')⟩
def jRet (t : TE2) : TS2 := fun D δ μ => t δ μ D.rt
theorem js_ret {e : Expr} {pos : Pos} {t : TE2} (he : E2 X Z e t) : S2 X Z (.Return (some e) pos) (jRet t) := by
  refine ps_imp (ps_ret he) ?_
  rintro D σ H ⟨F, δ, μ, D2, m, q, e⟩
  exact ⟨F, δ, μ, _, m, q, fun d μ' F' H' v q' g' w' r' => e.rt d μ' F' H' v q' g' w' r'⟩
def jRetN : TS2 := fun D _ μ => D.rt .non μ
theorem js_retN {pos : Pos} : S2 X Z (.Return none pos) jRetN := by
  refine ps_imp ps_retN ?_
  rintro D σ H ⟨F, δ, μ, D2, m, q, e⟩
  exact e.rt .non μ F H .non q .refl m.wd .non
def jIfS (c : TT2) (t u : TS2) : TS2 := fun D δ μ => c δ μ fun b μ1 => if b = true then t D δ μ1 else u D δ μ1
theorem js_if {c : Expr} {a b : List Stmt} {pos : Pos} {tc : TT2} {t u : TS2} (hc : T2 X Z c tc) (ha : B2 X Z a t) (hb : B2 X Z b u) : S2 X Z (.If c a b pos) (jIfS tc t u) := by
  refine ps_imp (ps_if hc ha hb) ?_
  rintro D σ H ⟨F, δ, μ, D2, m, q, e⟩
  refine ⟨F, δ, μ, _, m, q, ?_⟩
  rintro b μ1 F1 H1 q1 g1 w1
  cases b with
  | true =>
    rw [if_pos rfl] at q1 ⊢
    exact ⟨F1, δ, μ1, D2, m.step g1 w1, q1, e.step g1⟩
  | false =>
    rw [if_neg Bool.false_ne_true] at q1 ⊢
    exact ⟨F1, δ, μ1, D2, m.step g1 w1, q1, e.step g1⟩
/-- code that is never reached -/
def jNever : TS2 := fun _ _ _ => False
theorem js_never {st : Stmt} : S2 X Z st jNever := ps_imp ps_never fun _ _ _ ⟨_, _, _, _, _, q, _⟩ => q.elim

/-! ### targets -/
abbrev TG2 := D → Sg → Mu → (Sg → Mu → Prop) → Prop
abbrev TGs2 := List D → Sg → Mu → (Sg → Mu → Prop) → Prop
def lowG (K : PySem.W.Frag) (Z : Zw) (t : TG2) : TG := fun v σ H Q => ∃ F δ μ d Q0, Mt K Z F σ H δ μ ∧ Rep K F v d ∧ t d δ μ Q0 ∧ ∀ δ' μ' F' σ' H', Q0 δ' μ' → Gr F H μ F' H' μ' → Mt K Z F' σ' H' δ' μ' → Q σ' H'
def lowGs (K : PySem.W.Frag) (Z : Zw) (t : TGs2) : TGs := fun vs σ H Q => ∃ F δ μ ds Q0, Mt K Z F σ H δ μ ∧ Reps K F vs ds ∧ t ds δ μ Q0 ∧ ∀ δ' μ' F' σ' H', Q0 δ' μ' → Gr F H μ F' H' μ' → Mt K Z F' σ' H' δ' μ' → Q σ' H'
abbrev G2 (X : Cx) (Z : Zw) (e : Expr) (t : TG2) : Prop := PG X e (lowG X.K Z t)
def kName (i : Nat) : TG2 := fun d δ μ Q => Q (δ.set i (some d)) μ
theorem kg {i : Nat} {x : Str} {pos : Pos} (hN : X.N.Nodup) (hi : X.N[i]? = some x) (hx : Loc X.env.scope x) (hf : X.fn x = true ∨ X.env.scope.names.lookup x = some .local := by first | exact .inl rfl | exact .inr rfl | assumption) : G2 X Z (.Name x pos) (kName i) := by
  refine pg_imp (pg_name hN hi hx hf) ?_
  rintro v σ H Q ⟨F, δ, μ, d, Q0, m, r, q, k⟩
  exact k _ μ F _ H q .refl ⟨m.wd, m.env.set r i, m.z⟩
def jAsg (t : TE2) (g : TG2) : TS2 := fun D δ μ => t δ μ fun d μ1 => g d δ μ1 D.nx
theorem low_asg {K : PySem.W.Frag} {t : TE2} {g : TG2} {D : Ends} {σ : Sv} {H : Hp} (h : lowS K Z (jAsg t g) D σ H) : tAsg (lowE K Z t) (lowG K Z g) D σ H := by
  obtain ⟨F, δ, μ, D2, m, q, e⟩ := h
  refine ⟨F, δ, μ, _, m, q, ?_⟩
  intro d μ1 F1 H1 v q1 g1 w1 r1
  refine ⟨F1, δ, μ1, d, _, m.step g1 w1, r1, q1, ?_⟩
  intro δ' μ' F' σ' H' q' g' m'
  exact e.nx δ' μ' F' σ' H' q' (g1.trans g') m'
theorem js_asg {tg e : Expr} {pos : Pos} {t : TE2} {g : TG2} (he : E2 X Z e t) (hg : G2 X Z tg g) (hs : swapsWithSole [tg] e pos.line X.env = pure false := by rfl) (hw : swappedStores [tg] e X.env = pure none := by rfl)
    (h1 : (assignEach [tg] X.env).map (·.2) = [assign tg X.env] := by rfl) : S2 X Z (.Assign [tg] e pos) (jAsg t g) := ps_imp (ps_asg he hg hs hw h1) fun _ _ _ q => low_asg q
theorem js_set {i : Nat} {x : Str} {e : Expr} {t : TE2} {pos pos' : Pos} (hN : X.N.Nodup) (hi : X.N[i]? = some x) (hx : Loc X.env.scope x) (he : E2 X Z e t) (hs : swapsWith e (some (.Name x pos')) pos.line X.env = pure false := by rfl) (hf : X.fn x = true ∨ X.env.scope.names.lookup x = some .local := by first | exact .inl rfl | exact .inr rfl | assumption) :
    S2 X Z (.Assign [.Name x pos'] e pos) (jAsg t (kName i)) := by
  refine ps_imp (ps_set hN hi hx he hs hf) ?_
  rintro D σ H ⟨F, δ, μ, D2, m, q, e⟩
  refine ⟨F, δ, μ, _, m, q, ?_⟩
  intro d μ1 F1 H1 v q1 g1 w1 r1
  have m1 := m.step g1 w1
  exact e.nx _ μ1 F1 _ H1 q1 g1 ⟨w1, m1.env.set r1 i, m1.z⟩
/-- (a, b, ..) = a tuple -/
def kNil : TGs2 := fun ds δ μ Q => ds = [] ∧ Q δ μ
def kCons (t : TG2) (u : TGs2) : TGs2 := fun ds δ μ Q => ∃ d r, ds = d :: r ∧ t d δ μ fun δ' μ' => u r δ' μ' Q
def kTup (n : Nat) (t : TGs2) : TG2 := fun d δ μ Q => ∃ xs, d = .tup xs ∧ xs.length = n ∧ t xs δ μ Q
theorem kg0 : PGs X [] (lowGs X.K Z kNil) := ⟨fun pins s σ H vs us Q I r h => by
  obtain ⟨F, δ, μ, ds, Q0, m, r2, ⟨e, q⟩, k⟩ := h
  subst e
  cases r2
  exact (pgs_nil (X := X)).run pins s σ H [] us Q I r ⟨rfl, k δ μ F σ H q .refl m⟩⟩
theorem kgs {e : Expr} {es : List Expr} {t : TG2} {u : TGs2} (h1 : G2 X Z e t) (h2 : PGs X es (lowGs X.K Z u)) (hs : (assignEach (e :: es) X.env).map (·.2) = assign e X.env :: (assignEach es X.env).map (·.2) := by rfl) : PGs X (e :: es) (lowGs X.K Z (kCons t u)) :=
  ⟨fun pins s σ H vs us Q I r h => by
    obtain ⟨F, δ, μ, ds, Q0, m, r2, ⟨d, rr, e1, q⟩, k⟩ := h
    subst e1
    cases r2 with
    | cons ra rb =>
      refine (pgs_cons h1 h2 hs).run pins s σ H _ us Q I r ⟨_, _, rfl, F, δ, μ, d, _, m, ra, q, ?_⟩
      intro δ' μ' F' σ' H' q' g' m'
      exact ⟨F', δ', μ', rr, Q0, m', rb.mono g'.ff, q', fun δ2 μ2 F2 σ2 H2 q2 g2 m2 => k δ2 μ2 F2 σ2 H2 q2 (g'.trans g2) m2⟩⟩
theorem kgtup {es : List Expr} {k : Nat} {t : TGs2} {n : Nat} {pos : Pos} (hc : X.calm = true) (h : PGs X es (lowGs X.K Z t))
    (hn : (assignEach es X.env).length = n := by rfl) (hst : (assignEach es X.env).findIdx? (·.1) = none := by rfl) : G2 X Z (.Tuple es k pos) (kTup n t) := by
  refine pg_imp (pg_tup hc h hn hst) ?_
  rintro v σ H Q ⟨F, δ, μ, d, Q0, m, r, ⟨xs, rfl, hl, q⟩, k⟩
  cases r with
  | tup hq rs =>
    refine ⟨_, _, rfl, sqt_mono m.wd.sub hq, by rw [rs.length]; exact hl, F, δ, μ, xs, Q0, m, rs, q, k⟩
end
end J

namespace J
open PySem PySem.Spec PyProof.Rows L2

/-! ### a step of the proof's own: what may change becomes settled -/
def Upd (Q : QE) : QE := fun d μ => ∀ (K : PySem.W.Frag) F H v, Wd K F H μ → Rep K F v d → ∃ F' d' μ', Gr F H μ F' H μ' ∧ Wd K F' H μ' ∧ Rep K F' v d' ∧ Q d' μ'
theorem Upd.of {Q : QE} {d : D} {μ : Mu} (q : Q d μ) : Upd Q d μ := fun _ F _ _ w r => ⟨F, d, μ, .refl, w, r, q⟩
theorem Upd.imp {Q Q' : QE} {d : D} {μ : Mu} (q : Upd Q d μ) (h : ∀ d μ, Q d μ → Q' d μ) : Upd Q' d μ := fun K F H v w r => by
  obtain ⟨F', d', μ', g, w', r', q'⟩ := q K F H v w r
  exact ⟨F', d', μ', g, w', r', h _ _ q'⟩
theorem Upd.join {Q : QE} {d : D} {μ : Mu} (q : Upd (Upd Q) d μ) : Upd Q d μ := fun K F H v w r => by
  obtain ⟨F', d', μ', g, w', r', q'⟩ := q K F H v w r
  obtain ⟨F2, d2, μ2, g2, w2, r2, q2⟩ := q' K F' H v w' r'
  exact ⟨F2, d2, μ2, g.trans g2, w2, r2, q2⟩
def Le (μ' μ : Mu) : Prop := ∀ a o, μ' a = some o → μ a = some o
theorem Le.refl {μ : Mu} : Le μ μ := fun _ _ h => h
theorem Wd.drop {K : PySem.W.Frag} {F H : Hp} {μ μ' : Mu} (w : Wd K F H μ) (l : Le μ' μ) : Wd K F H μ' ∧ Gr F H μ F H μ' := by
  refine ⟨⟨w.sub, fun a o e => w.mts a o (l a o e)⟩, ⟨Same.refl _, fun b o h1 h2 h3 => ⟨h1, h2, ?_⟩⟩⟩
  cases e : μ' b with
  | none => rfl
  | some u => rw [l b u e] at h3; cases h3
theorem Upd.drop {Q : QE} {d : D} {μ μ' : Mu} (l : Le μ' μ) (q : Q d μ') : Upd Q d μ := fun K F H v w r => by
  obtain ⟨w', g⟩ := w.drop l
  exact ⟨F, d, μ', g, w', r, q⟩
theorem mdel_mup {μ : Mu} {p : Addr} {o : MO} (h : μ p = none) : mdel (mup μ p o) p = μ := by
  funext b
  unfold mdel mup
  split
  · next e => rw [e, h]
  · rfl
theorem Wd.freeze {K : PySem.W.Frag} {F H : Hp} {μ : Mu} {p : Addr} {o : HO} {m : MO} (w : Wd K F H μ) (hm : μ p = some m) (ho : H p = some o) : Wd K (upd F p o) H (mdel μ p) ∧ Gr F H μ (upd F p o) H (mdel μ p) := by
  obtain ⟨fp, _⟩ := w.mts p m hm
  have ff : Same F (upd F p o) := fun b u e => by rw [upd_ne (ne_of_none e fp)]; exact e
  refine ⟨⟨fun b u e => ?_, fun a u e => ?_⟩, ⟨ff, fun b u h1 h2 h3 => ?_⟩⟩
  · by_cases hb : b = p
    · subst hb; rw [upd_same] at e; rw [ho]; exact e
    · rw [upd_ne hb] at e; exact w.sub b u e
  · unfold mdel at e
    split at e
    · cases e
    · next ha =>
      obtain ⟨h1, ho', h2, h3⟩ := w.mts a u e
      exact ⟨by rw [upd_ne ha]; exact h1, ho', h2, h3.mono ff⟩
  · have hb : b ≠ p := fun z => by rw [z, hm] at h3; cases h3
    exact ⟨h1, by rw [upd_ne hb]; exact h2, by unfold mdel; rw [if_neg hb]; exact h3⟩
theorem Upd.lst {Q : QE} {p : Addr} {μ : Mu} {xs : List D} (h : μ p = some (.lst xs)) (q : Q (.lst xs) (mdel μ p)) : Upd Q (.ref p) μ := fun K F H v w r => by
  cases r
  obtain ⟨fp, ho, h1, h2⟩ := w.mts p _ h
  cases h2 with
  | lst rs =>
    obtain ⟨w', g⟩ := w.freeze h h1
    exact ⟨_, _, _, g, w', .lst upd_same (rs.mono g.ff), q⟩
theorem Upd.dct {Q : QE} {p : Addr} {μ : Mu} {xs : List (Key × D)} (h : μ p = some (.dct xs)) (q : Q (.dct xs) (mdel μ p)) : Upd Q (.ref p) μ := fun K F H v w r => by
  cases r
  obtain ⟨fp, ho, h1, h2⟩ := w.mts p _ h
  cases h2 with
  | dct rs =>
    obtain ⟨w', g⟩ := w.freeze h h1
    exact ⟨_, _, _, g, w', .dct upd_same (rs.mono g.ff), q⟩
theorem Upd.ins {Q : QE} {p C : Addr} {μ : Mu} {fs : List (Str × D)} (h : μ p = some (.ins C fs)) (q : Q (.ins C fs) (mdel μ p)) : Upd Q (.ref p) μ := fun K F H v w r => by
  cases r
  obtain ⟨fp, ho, h1, h2⟩ := w.mts p _ h
  cases h2 with
  | ins rs =>
    obtain ⟨w', g⟩ := w.freeze h h1
    exact ⟨_, _, _, g, w', .ins upd_same (rs.mono g.ff), q⟩

/-! ### promises -/
/-- an exception's class, its attributes, what may change behind it -/
abbrev Ex2 := Addr → List (Str × D) → Mu → Prop
abbrev Sp2 := List D → Mu → QE → Ex2 → Prop
def noEx : Ex2 := fun _ _ _ => False
def ZE (K : PySem.W.Frag) (ex : Ex2) (E : XK) : Hp → Hp → Mu → Prop := fun F H μ => ∀ C fs μ' F' H' dx vs, ex C fs μ' → Gr F H μ F' H' μ' → Wd K F' H' μ' → H' dx = some (.xd vs) → F' dx = none → RepF K F' vs fs → E (.ref C) (some dx) H'
def ZEw (K : PySem.W.Frag) (ex : Ex2) (E : XK) : Zw := ⟨ZE K ex E, fun h g => fun C fs μ' F' H' dx vs e g' w' hd hf r => h C fs μ' F' H' dx vs e (g.trans g') w' hd hf r⟩
theorem ZE.none {K : PySem.W.Frag} {E : XK} {F H : Hp} {μ : Mu} : ZE K noEx E F H μ := fun _ _ _ _ _ _ _ h => h.elim
def lowSp (K : PySem.W.Frag) (sp : Sp2) : Sp := fun vs H Q E => ∃ F μ ds Q0 ex, Wd K F H μ ∧ Reps K F vs ds ∧ sp ds μ Q0 ex ∧ (∀ d μ' F' H' v, Q0 d μ' → Gr F H μ F' H' μ' → Wd K F' H' μ' → Rep K F' v d → Q v H') ∧ ZE K ex E F H μ
section
variable {X : Cx} {Z : Zw} {CX : CXT} {k : Nat} {f C : Addr} {fd : FuncData} {ps : List Str} {sp : Sp2} {dvs : List V} {dds : List D} {ds : List Value} {E : XK} {ex : Ex2} {x m : Str} {p pos apos : Pos} {e o : Expr} {es : List Expr} {ta : TE2} {t : TA2}
def jCall (sp : Sp2) (dds : List D) (ex : Ex2) (t : TA2) : TE2 := fun δ μ Q => t δ μ fun ds μ1 => sp (ds ++ dds) μ1 (Upd Q) ex
theorem low_call {K : PySem.W.Frag} {σ : Sv} {H : Hp} {Q : VK} (hdd : ∀ F, Reps K F dvs dds) (hz : ∀ F H μ, Z.p F H μ → ZE K ex E F H μ) (h : lowE K Z (jCall sp dds ex t) σ H Q) : tCall (lowSp K sp) dvs E (lowA K Z t) σ H Q := by
  obtain ⟨F, δ, μ, Q0, m, q, k⟩ := h
  refine ⟨F, δ, μ, _, m, q, ?_⟩
  intro as μ1 F1 H1 vs q1 g1 w1 r1
  refine ⟨F1, μ1, as ++ dds, _, ex, w1, r1.append (hdd F1), q1, ?_, hz _ _ _ (Z.up m.z g1)⟩
  intro d μ2 F2 H2 v q2 g2 w2 r2
  obtain ⟨F3, d3, μ3, g3, w3, r3, q3⟩ := q2 K F2 H2 v w2 r2
  exact k d3 μ3 F3 H2 v q3 ((g1.trans g2).trans g3) w3 r3
/-- f(e, ..) -/
theorem jcall (F : FnOk X.prog X.w X.K X.mg X.base CX k f fd ps (lowSp X.K sp)) (hr : Room k X.A) (hg : Gl X x) (hm : X.mg x = some (.ref f)) (hk : PySem.W.keepIn X.K (.ref f) = true) (hb : Binds X.K fd ps ds) (hd : Vals dvs ds) (hdd : ∀ F, Reps X.K F dvs dds)
    (hx : Passes CX X E) (hz : ∀ F H μ, Z.p F H μ → ZE X.K ex E F H μ) (ha : A2 X Z (e :: es) t) (hdb : (x == ("__debug__" : Str)) = false := by decide) (he : starEach (e :: es) X.env = (false, eval e X.env) :: starEach es X.env := by rfl) (hpl : (backTo pos (starEach es X.env)).any (·.1) = false := by rfl) :
    E2 X Z (.Call (.Name x p) (e :: es) [] pos) (jCall sp dds ex t) := pe_imp (pe_call F hr hg hm hk hb hd hx ha hdb he hpl) fun _ _ _ h => low_call hdd hz h
/-- f() -/
theorem jcall0 (F : FnOk X.prog X.w X.K X.mg X.base CX k f fd ps (lowSp X.K sp)) (hr : Room k X.A) (hg : Gl X x) (hm : X.mg x = some (.ref f)) (hk : PySem.W.keepIn X.K (.ref f) = true) (hb : Binds X.K fd ps ds) (hd : Vals dvs ds) (hdd : ∀ F, Reps X.K F dvs dds)
    (hx : Passes CX X E) (hz : ∀ F H μ, Z.p F H μ → ZE X.K ex E F H μ) (hdb : (x == ("__debug__" : Str)) = false := by decide) : E2 X Z (.Call (.Name x p) [] [] pos) (jCall sp dds ex jNil) := by
  refine pe_imp (pe_call0 F hr hg hm hk hb hd hx hdb) fun σ H Q h => ?_
  obtain ⟨F, δ, μ, Q0, m, q, k⟩ := h
  refine ⟨F, μ, dds, _, ex, m.wd, hdd F, q, ?_, hz _ _ _ m.z⟩
  intro d μ2 F2 H2 v q2 g2 w2 r2
  obtain ⟨F3, d3, μ3, g3, w3, r3, q3⟩ := q2 X.K F2 H2 v w2 r2
  exact k d3 μ3 F3 H2 v q3 (g2.trans g3) w3 r3

/-! ### instances -/
def IsIns (x : D) (C : Addr) (fs : List (Str × D)) (μ : Mu) : Prop := x = .ins C fs ∨ ∃ a, x = .ref a ∧ μ a = some (.ins C fs)
theorem RepF.look {K : PySem.W.Frag} {F : Hp} (n : Str) : ∀ {fs : List (Str × V)} {ds : List (Str × D)}, RepF K F fs ds → (∀ d, ds.lookup n = some d → ∃ v, fs.lookup n = some v ∧ Rep K F v d) ∧ (ds.lookup n = none → fs.lookup n = none)
  | _, _, .nil => ⟨fun _ h => by simp at h, fun _ => rfl⟩
  | _, _, .cons (k := k) (v := v) (d := d) (vs := vs) (ds := ds) r t => by
    have ih := RepF.look n t
    by_cases h : n = k
    · subst h
      have e1 : List.lookup n ((n, d) :: ds) = some d := by simp [List.lookup]
      have e2 : List.lookup n ((n, v) :: vs) = some v := by simp [List.lookup]
      refine ⟨fun d' q => ?_, fun q => ?_⟩
      · rw [e1] at q; cases q
        exact ⟨v, e2, r⟩
      · rw [e1] at q; cases q
    · have hb : (n == k) = false := by simpa using h
      have e1 : List.lookup n ((k, d) :: ds) = List.lookup n ds := by simp [List.lookup, hb]
      have e2 : List.lookup n ((k, v) :: vs) = List.lookup n vs := by simp [List.lookup, hb]
      rw [e1, e2]
      exact ih
theorem ins_at {K : PySem.W.Frag} {F H : Hp} {μ : Mu} {v : V} {d : D} {C : Addr} {fs : List (Str × D)} (w : Wd K F H μ) (r : Rep K F v d) (i : IsIns d C fs μ) : ∃ a dx vs, v = .ref a ∧ H a = some (.ins C dx vs) ∧ RepF K F vs fs := by
  rcases i with rfl | ⟨a, rfl, h⟩
  · cases r with
    | ins h rs => exact ⟨_, _, _, rfl, w.sub _ _ h, rs⟩
  · cases r
    obtain ⟨_, ho, h1, h2⟩ := w.mts a _ h
    cases h2 with
    | ins rs => exact ⟨a, _, _, rfl, h1, rs⟩
def jFld (K : PySem.W.Frag) (ta : TE2) (f : Str) : TE2 := fun δ μ Q => ta δ μ fun x μ1 => ∃ C fs d, IsIns x C fs μ1 ∧ Cls K C ∧ NoAttr K C f ∧ fs.lookup f = some d ∧ Q d μ1
theorem jfld {f : Str} (he : E2 X Z e ta) (hb : attributeBase e f X.env (eval e X.env) = eval e X.env) : E2 X Z (.Attribute e f pos) (jFld X.K ta f) := by
  refine pe_imp (pe_fld he hb) ?_
  rintro σ H Q ⟨F, δ, μ, Q0, m, q, k⟩
  refine ⟨F, δ, μ, _, m, q, ?_⟩
  rintro d μ1 F1 H1 v ⟨C, fs, d', hi, hc, hn, hl, q1⟩ g1 w1 r1
  obtain ⟨a, dx, vs, rfl, ha, rs⟩ := ins_at w1 r1 hi
  obtain ⟨v', e1, r'⟩ := (rs.look f).1 _ hl
  exact ⟨a, C, dx, vs, v', rfl, ha, hc, hn, e1, k d' μ1 F1 H1 v' q1 g1 w1 r'⟩
def putD (f : Str) (v : D) : List (Str × D) → List (Str × D)
  | [] => [(f, v)]
  | (g, w) :: r => if g = f then (g, v) :: r else (g, w) :: putD f v r
theorem putF_def (f : Str) (v : V) (fs : List (Str × V)) : putF f v fs = match fs with
  | [] => [(f, v)]
  | (g, w) :: r => if g = f then (g, v) :: r else (g, w) :: putF f v r := by
  cases fs <;> rfl
theorem RepF.put {K : PySem.W.Frag} {F : Hp} {f : Str} {v : V} {d : D} (r : Rep K F v d) : ∀ {fs : List (Str × V)} {ds : List (Str × D)}, RepF K F fs ds → RepF K F (putF f v fs) (putD f d ds)
  | _, _, .nil => .cons r .nil
  | _, _, .cons (k := k) (v := v') (d := d') (vs := vs) (ds := ds) q t => by
    rw [putF_def]
    unfold putD
    by_cases h : k = f
    · subst h
      simp only [if_true]
      exact .cons r t
    · simp only [if_neg h]
      exact .cons q (RepF.put r t)
theorem RepF.length {K : PySem.W.Frag} {F : Hp} : ∀ {fs : List (Str × V)} {ds : List (Str × D)}, RepF K F fs ds → fs.length = ds.length
  | _, _, .nil => rfl
  | _, _, .cons _ t => congrArg (· + 1) (RepF.length t)
def jSetF (K : PySem.W.Frag) (ta tv : TE2) (f : Str) : TS2 := fun D δ μ => tv δ μ fun y μ1 => ta δ μ1 fun x μ2 => ∃ a C fs, x = .ref a ∧ μ2 a = some (.ins C fs) ∧ Cls K C ∧ NoAttr K C f ∧ fs.length < 1000 ∧ D.nx δ (mup μ2 a (.ins C (putD f y fs)))
theorem js_fld {f : Str} {value : Expr} {pos' : Pos} {tv : TE2} (ha : E2 X Z o ta) (hv : E2 X Z value tv) (hs : swapsWith value (some (.Attribute o f pos')) pos.line X.env = pure false) : S2 X Z (.Assign [.Attribute o f pos'] value pos) (jSetF X.K ta tv f) := by
  refine ps_imp (ps_fld ha hv hs) ?_
  rintro D σ H ⟨F, δ, μ, D2, m, q, e⟩
  refine ⟨F, δ, μ, _, m, q, ?_⟩
  intro y μ1 F1 H1 v q1 g1 w1 r1
  refine ⟨F1, δ, μ1, _, m.step g1 w1, q1, ?_⟩
  rintro x μ2 F2 H2 u ⟨a, C, fs, rfl, hi, hc, hn, hl, q2⟩ g2 w2 r2
  cases r2
  obtain ⟨_, ho, h1, h2⟩ := w2.mts a _ hi
  cases h2 with
  | ins rs =>
    obtain ⟨w3, g3⟩ := w2.write hi (RepM.ins (C := C) (RepF.put (f := f) (r1.mono g2.ff) rs))
    exact ⟨a, C, _, _, rfl, h1, hc, hn, by rw [rs.length]; exact hl, e.nx _ _ _ _ _ q2 ((g1.trans g2).trans g3) ((m.step g1 w1).step (g2.trans g3) w3)⟩
/-- o.m(e, ..) -/
def jMeth (C : Addr) (m : Str) (sp : Sp2) (dds : List D) (ex : Ex2) (ta : TE2) (t : TA2) : TE2 := fun δ μ Q => ta δ μ fun x μ1 => (∃ fs, IsIns x C fs μ1 ∧ fs.lookup m = none) ∧ t δ μ1 fun ds μ2 => sp (x :: (ds ++ dds)) μ2 (Upd Q) ex
theorem low_meth {K : PySem.W.Frag} {σ : Sv} {H : Hp} {Q : VK} (hdd : ∀ F, Reps K F dvs dds) (hz : ∀ F H μ, Z.p F H μ → ZE K ex E F H μ) (h : lowE K Z (jMeth C m sp dds ex ta t) σ H Q) : tMeth C m (lowSp K sp) dvs E (lowE K Z ta) (lowA K Z t) σ H Q := by
  obtain ⟨F, δ, μ, Q0, mm, q, k⟩ := h
  refine ⟨F, δ, μ, _, mm, q, ?_⟩
  rintro x μ0 F0 H0 xv ⟨⟨fs, hi, hl⟩, q0⟩ g0 w0 r0
  obtain ⟨a, dx, vs0, rfl, ha, rs⟩ := ins_at w0 r0 hi
  refine ⟨a, dx, vs0, rfl, ha, (rs.look m).2 hl, F0, δ, μ0, _, mm.step g0 w0, q0, ?_⟩
  intro as μ1 F1 H1 vs q1 g1 w1 r1
  refine ⟨F1, μ1, x :: (as ++ dds), _, ex, w1, .cons (r0.mono g1.ff) (r1.append (hdd F1)), q1, ?_, hz _ _ _ (Z.up mm.z (g0.trans g1))⟩
  intro d μ2 F2 H2 v q2 g2 w2 r2
  obtain ⟨F3, d3, μ3, g3, w3, r3, q3⟩ := q2 K F2 H2 v w2 r2
  exact k d3 μ3 F3 H2 v q3 (((g0.trans g1).trans g2).trans g3) w3 r3
theorem jmeth {pl : Sem Bool} (he : E2 X Z o ta) (c : Cls X.K C) (hm : Meth X.K C m f) (F : FnOk X.prog X.w X.K X.mg X.base CX k f fd ps (lowSp X.K sp)) (hr : Room k X.A) (hb : Binds X.K fd ps ds) (hd : Vals dvs ds) (hdd : ∀ F, Reps X.K F dvs dds) (hx : Passes CX X E) (hz : ∀ F H μ, Z.p F H μ → ZE X.K ex E F H μ) (ha : A2 X Z (e :: es) t)
    (hst : starEach (e :: es) X.env = (false, eval e X.env) :: starEach es X.env := by rfl) (hpl : (backTo pos (starEach es X.env)).any (·.1) = false := by rfl)
    (ht : eval (.Call (.Attribute o m apos) (e :: es) [] pos) X.env = (do
      let ov ← eval o X.env
      standAt apos.atName
      let (f, first) ← holding [ov] (getMethod ov m pl)
      callWith pos f first (backTo pos (starEach (e :: es) X.env)) (backToKw pos (keywordEach [] X.env))) := by rfl) : E2 X Z (.Call (.Attribute o m apos) (e :: es) [] pos) (jMeth C m sp dds ex ta t) :=
  pe_imp (pe_meth he c hm F hr hb hd hx ha hst hpl ht) fun _ _ _ h => low_meth hdd hz h
theorem jmeth0 {pl : Sem Bool} (he : E2 X Z o ta) (c : Cls X.K C) (hm : Meth X.K C m f) (F : FnOk X.prog X.w X.K X.mg X.base CX k f fd ps (lowSp X.K sp)) (hr : Room k X.A) (hb : Binds X.K fd ps ds) (hd : Vals dvs ds) (hdd : ∀ F, Reps X.K F dvs dds) (hx : Passes CX X E) (hz : ∀ F H μ, Z.p F H μ → ZE X.K ex E F H μ)
    (ht : eval (.Call (.Attribute o m apos) [] [] pos) X.env = (do
      let ov ← eval o X.env
      standAt apos.atName
      let (f, first) ← holding [ov] (getMethod ov m pl)
      callWith pos f first (backTo pos (starEach [] X.env)) (backToKw pos (keywordEach [] X.env))) := by rfl) : E2 X Z (.Call (.Attribute o m apos) [] [] pos) (jMeth C m sp dds ex ta jNil) := by
  refine pe_imp (pe_meth0 he c hm F hr hb hd hx ht) fun σ H Q h => ?_
  obtain ⟨F, δ, μ, Q0, mm, q, k⟩ := h
  refine ⟨F, δ, μ, _, mm, q, ?_⟩
  rintro x μ0 F0 H0 xv ⟨⟨fs, hi, hl⟩, q0⟩ g0 w0 r0
  obtain ⟨a, dx, vs0, rfl, ha, rs⟩ := ins_at w0 r0 hi
  refine ⟨a, dx, vs0, rfl, ha, (rs.look m).2 hl, F0, μ0, x :: dds, _, ex, w0, .cons r0 (hdd F0), q0, ?_, hz _ _ _ (Z.up mm.z g0)⟩
  intro d μ2 F2 H2 v q2 g2 w2 r2
  obtain ⟨F3, d3, μ3, g3, w3, r3, q3⟩ := q2 X.K F2 H2 v w2 r2
  exact k d3 μ3 F3 H2 v q3 ((g0.trans g2).trans g3) w3 r3
/-- C(e, ..) -/
def jMake (C : Addr) (sp : Sp2) (dds : List D) (ex : Ex2) (t : TA2) : TE2 := fun δ μ Q => t δ μ fun ds μ1 => ∀ x, μ1 x = none → sp (.ref x :: (ds ++ dds)) (mup μ1 x (.ins C [])) (fun d μ2 => d = .non ∧ Upd Q (.ref x) μ2) ex
theorem low_make {K : PySem.W.Frag} {F H : Hp} {μ : Mu} {Q : VK} {Q0 : QE} {as : List D} {vs : List V} (w : Wd K F H μ) (rs : Reps K F vs as) (hdd : ∀ F, Reps K F dvs dds) (hz : ZE K ex E F H μ)
    (q : ∀ x, μ x = none → sp (.ref x :: (as ++ dds)) (mup μ x (.ins C [])) (fun d μ2 => d = .non ∧ Upd Q0 (.ref x) μ2) ex)
    (k : ∀ d μ' F' H' v, Q0 d μ' → Gr F H μ F' H' μ' → Wd K F' H' μ' → Rep K F' v d → Q v H') :
    ∀ x dx, H x = none → H dx = none → dx ≠ x → lowSp K sp (.ref x :: (vs ++ dvs)) (upd (upd H dx (.own x)) x (.ins C dx [])) (fun v H2 => v = .non ∧ Q (.ref x) H2) E := by
  intro x dx hx hdx ne
  have w1 : Wd K F (upd H dx (.own x)) μ ∧ Gr F H μ F (upd H dx (.own x)) μ := by
    have fd : F dx = none := by
      cases h : F dx with
      | none => rfl
      | some u => rw [w.sub dx u h] at hdx; cases hdx
    refine ⟨⟨fun b u e => by rw [upd_ne (ne_of_none e fd)]; exact w.sub b u e, fun a u e => ?_⟩, ⟨Same.refl _, fun b u h1 h2 h3 => ?_⟩⟩
    · obtain ⟨h1, ho, h2, h3⟩ := w.mts a u e
      exact ⟨h1, ho, by rw [upd_ne (ne_of_none h2 hdx)]; exact h2, h3⟩
    · exact ⟨by rw [upd_ne (ne_of_none h1 hdx)]; exact h1, h2, h3⟩
  obtain ⟨w1, g1⟩ := w1
  have hx1 : upd H dx (.own x) x = none := by rw [upd_ne ne.symm]; exact hx
  obtain ⟨w2, g2, mx⟩ := w1.fresh (o := .ins C dx []) hx1 (RepM.ins (C := C) .nil)
  refine ⟨F, _, _, _, ex, w2, .cons .ref (rs.append (hdd F)), q x mx, ?_, ?_⟩
  · rintro d μ3 F3 H3 v ⟨rfl, q3⟩ g3 w3 r3
    cases r3
    refine ⟨rfl, ?_⟩
    obtain ⟨F4, d4, μ4, g4, w4, r4, q4⟩ := q3 K F3 H3 (.ref x) w3 .ref
    exact k d4 μ4 F4 H3 _ q4 (((g1.trans g2).trans g3).trans g4) w4 r4
  · exact (ZEw K ex E).up hz (g1.trans g2)
theorem jmake (M : Mk X.K C f) (F : FnOk X.prog X.w X.K X.mg X.base CX k f fd ps (lowSp X.K sp)) (hr : Room (k + 1) X.A) (hg : Gl X x) (hm : X.mg x = some (.ref C)) (hb : Binds X.K fd ps ds) (hd : Vals dvs ds) (hdd : ∀ F, Reps X.K F dvs dds) (hx : Passes CX X E) (hz : ∀ F H μ, Z.p F H μ → ZE X.K ex E F H μ)
    (ha : A2 X Z (e :: es) t) (hdb : (x == ("__debug__" : Str)) = false := by decide) (he : starEach (e :: es) X.env = (false, eval e X.env) :: starEach es X.env := by rfl) (hpl : (backTo pos (starEach es X.env)).any (·.1) = false := by rfl) :
    E2 X Z (.Call (.Name x p) (e :: es) [] pos) (jMake C sp dds ex t) := by
  refine pe_imp (pe_make M F hr hg hm hb hd hx ha hdb he hpl) fun σ H Q h => ?_
  obtain ⟨F, δ, μ, Q0, mm, q, k⟩ := h
  refine ⟨F, δ, μ, _, mm, q, ?_⟩
  intro as μ1 F1 H1 vs q1 g1 w1 r1
  exact low_make w1 r1 hdd (hz _ _ _ (Z.up mm.z g1)) q1 fun d μ' F' H' v q' g' w' r' => k d μ' F' H' v q' (g1.trans g') w' r'
theorem jmake0 (M : Mk X.K C f) (F : FnOk X.prog X.w X.K X.mg X.base CX k f fd ps (lowSp X.K sp)) (hr : Room (k + 1) X.A) (hg : Gl X x) (hm : X.mg x = some (.ref C)) (hb : Binds X.K fd ps ds) (hd : Vals dvs ds) (hdd : ∀ F, Reps X.K F dvs dds) (hx : Passes CX X E) (hz : ∀ F H μ, Z.p F H μ → ZE X.K ex E F H μ)
    (hdb : (x == ("__debug__" : Str)) = false := by decide) : E2 X Z (.Call (.Name x p) [] [] pos) (jMake C sp dds ex jNil) := by
  refine pe_imp (pe_make0 M F hr hg hm hb hd hx hdb) fun σ H Q h => ?_
  obtain ⟨F, δ, μ, Q0, mm, q, k⟩ := h
  exact low_make mm.wd .nil hdd (hz _ _ _ mm.z) q k
end

/-! ### a def's body -/
def startD (N : List Str) (ds : List D) : Sg := ds.map some ++ List.replicate (N.length - ds.length) none
theorem repE_start {K : PySem.W.Frag} {F : Hp} (N : List Str) : ∀ {vs : List V} {ds : List D}, Reps K F vs ds → RepE K F (start N vs) (startD N ds) := by
  intro vs ds r
  unfold L2.start startD
  rw [r.length]
  generalize N.length - ds.length = n
  induction r using Reps.rec (motive_1 := fun _ _ _ => True) (motive_3 := fun _ _ _ => True) (motive_4 := fun _ _ _ => True) with
  | nil =>
    show Paired _ (List.replicate n none) (List.replicate n none)
    induction n with
    | zero => exact .nil
    | succ n ih => exact .cons trivial ih
  | cons r _ _ ih => exact .cons r ih
  | _ => trivial
/-- what a body is to reach -/
def ends (Q : QE) : Ends2 := { nx := fun _ μ => Upd Q .non μ, rt := Upd Q }
section
variable {P : Program} {w : World} {K : PySem.W.Frag} {mg : Str → Option Value} {base : Heap}
theorem low_body {X : Cx} {Z : Zw} {K : PySem.W.Frag} {N : List Str} {t : TS2} {vs : List V} {H : Hp} {Q : VK} {F : Hp} {μ : Mu} {ds : List D} {Q0 : QE} (w : Wd K F H μ) (r : Reps K F vs ds) (z : Z.p F H μ) (h : t (ends Q0) (startD N ds) μ)
    (k : ∀ d μ' F' H' v, Q0 d μ' → Gr F H μ F' H' μ' → Wd K F' H' μ' → Rep K F' v d → Q v H') : lowS K Z t { nx := fun _ H' => Q .non H', rt := Q } (start N vs) H := by
  refine ⟨F, _, μ, _, ⟨w, repE_start N r, z⟩, h, ?_, ?_, ?_, ?_⟩
  · intro δ' μ' F' σ' H' q g m
    obtain ⟨F2, d2, μ2, g2, w2, r2, q2⟩ := q K F' H' .non m.wd .non
    exact k d2 μ2 F2 H' _ q2 (g.trans g2) w2 r2
  · intro d μ' F' H' v q g w' r'
    obtain ⟨F2, d2, μ2, g2, w2, r2, q2⟩ := q K F' H' v w' r'
    exact k d2 μ2 F2 H' _ q2 (g.trans g2) w2 r2
  · intro _ _ _ _ _ h; exact h.elim
  · intro _ _ _ _ _ h; exact h.elim
/-- THE RULE for a def that raises nothing -/
theorem fnok {x qual : Str} {params : Arguments} {body : List Stmt} {scope : Scope} {dvs : List V} {kws : List (Str × V)} {f : Addr} {fd : FuncData} {N ps : List Str} {k : Nat} {sp : Sp2} {t : TS2} (F : FunD K x qual params body scope dvs kws f fd) (S : FnScope N ps scope)
    (len : ∀ ds μ Q ex, sp ds μ Q ex → ds.length = ps.length)
    (hbody : ∀ (cdv : Value) (A : Around) (outer : List Env) (s : Shared) (H : Hp) (E : XK), Room k (A.deeper (envOfC qual scope s.heap.objs.size f cdv)) → B2 (cxOf CX0 P w K mg base N qual scope f cdv A outer s H E).nox Z0 body t)
    (hpure : ∀ ds μ Q ex, sp ds μ Q ex → t (ends Q) (startD N ds) μ) : FnOk P w K mg base CX0 (k + 1) f fd ps (lowSp K sp) := by
  refine F.ok S (fun vs H Q E h => ?_) (fun cdv A outer s H vs Q E hr h => ?_)
  · obtain ⟨F, μ, ds, Q0, ex, _, r, q, _⟩ := h
    rw [r.length]
    exact len _ _ _ _ q
  · obtain ⟨F1, μ, ds, Q0, ex, wd, r, q, kk, _⟩ := h
    exact ⟨_, (hbody cdv A outer s H E hr).nox, low_body (X := cxOf CX0 P w K mg base N qual scope f cdv A outer s H E) (Z := Z0) wd r trivial (hpure ds μ Q0 ex q) kk⟩
end

/-! ### for -/
def ItOk (K : PySem.W.Frag) (J : It) (F0 : Hp) (items : List D) (G : Mu → Prop) : Prop :=
  ∀ F H μ, Same F0 F → Wd K F H μ → G μ → (∀ (i : Nat) d, items[i]? = some d → J.go i H ∧ ∀ x H', J.yld i H x H' → ∃ F', Gr F H μ F' H' μ ∧ Wd K F' H' μ ∧ Rep K F' x d) ∧ ∀ i, items.length ≤ i → J.stop i H
abbrev TI2 := Sg → Mu → (List D → (Mu → Prop) → Mu → Prop) → Prop
def lowI (K : PySem.W.Frag) (Z : Zw) (ti : TI2) : TI := fun σ H R => ∃ F δ μ Q0, Mt K Z F σ H δ μ ∧ ti δ μ Q0 ∧ ∀ items G μ' F' H' J, Q0 items G μ' → Gr F H μ F' H' μ' → Wd K F' H' μ' → ItOk K J F' items G → R J H'
abbrev I2 (X : Cx) (Z : Zw) (tg iter : Expr) (ti : TI2) : Prop := PI X tg iter (lowI X.K Z ti)
theorem pi_imp {X : Cx} {tg iter : Expr} {t t' : TI} (h : PI X tg iter t) (i : ∀ σ H Q, t' σ H Q → t σ H Q) : PI X tg iter t' := ⟨fun pins s σ H Q I q => h.run pins s σ H Q I (i _ _ _ q)⟩
def jLoop (g : TG2) (tb : TS2) (G : Mu → Prop) (D : Ends2) : List J.D → Sg → Mu → Prop
  | [] => fun δ μ => G μ ∧ D.nx δ μ
  | x :: r => fun δ μ => G μ ∧ g x δ μ fun δ' μ' => tb { D with nx := jLoop g tb G D r, ct := jLoop g tb G D r, bk := D.nx } δ' μ'
def jFor (ti : TI2) (g : TG2) (tb : TS2) : TS2 := fun D δ μ => ti δ μ fun items G μ1 => jLoop g tb G D items δ μ1
theorem drop_at {α : Type} {l : List α} {i : Nat} (h : i < l.length) : ∃ x, l[i]? = some x ∧ l.drop i = x :: l.drop (i + 1) :=
  ⟨l[i], by simp [h], List.drop_eq_getElem_cons h⟩
section
variable {X : Cx} {Z : Zw}
theorem js_for {tg iter : Expr} {body : List Stmt} {pos : Pos} {ti : TI2} {g : TG2} {tb : TS2} (hp : PassesOwn (model X.prog X.w) X.A X.env X.xe) (hc : X.calm = true) (hi : I2 X Z tg iter ti) (hg : G2 X Z tg g) (hb : B2 X Z body tb)
    (hs : ∀ x, foldedSetIterable iter X.env x = pure x := by intro _; rfl) : S2 X Z (.For tg iter body [] pos) (jFor ti g tb) := by
  refine ps_imp (ps_for hp hc hi hg hb hs) ?_
  rintro D σ H ⟨F, δ, μ, D2, m, q, e⟩
  refine ⟨F, δ, μ, _, m, q, ?_⟩
  intro items G μ1 F1 H1 J q1 g1 w1 io
  have e1 := e.step g1
  refine ⟨fun i n σ H => n = items.length - i ∧ i ≤ items.length ∧ ∃ F δ μ, Gr F1 H1 μ1 F H μ ∧ Mt X.K Z F σ H δ μ ∧ jLoop g tb G D2 (items.drop i) δ μ, ⟨_, rfl, Nat.zero_le _, F1, δ, μ1, .refl, m.step g1 w1, q1⟩, ?_⟩
  rintro i n σ2 H2 ⟨rfl, hi, F2, δ2, μ2, g2, m2, q2⟩
  by_cases hlt : i < items.length
  · obtain ⟨x, hx, hd⟩ := drop_at hlt
    rw [hd] at q2
    obtain ⟨hG, q2⟩ := q2
    obtain ⟨go, yl⟩ := (io F2 H2 μ2 g2.ff m2.wd hG).1 i x hx
    refine .inr ⟨go, fun σ H => ∃ F δ μ, Gr F1 H1 μ1 F H μ ∧ Mt X.K Z F σ H δ μ ∧ jLoop g tb G D2 (items.drop (i + 1)) δ μ, fun σ' H' z => ⟨items.length - (i + 1), by omega, rfl, by omega, z⟩, ?_⟩
    intro xv H3 hy
    obtain ⟨F3, g3, w3, r3⟩ := yl xv H3 hy
    refine ⟨F3, δ2, μ2, x, _, m2.step g3 w3, r3, q2, ?_⟩
    intro δ4 μ4 F4 σ4 H4 q4 g4 m4
    have gg := (g2.trans g3).trans g4
    refine ⟨F4, δ4, μ4, _, m4, q4, ?_, (e1.step gg).rt, ?_, ?_⟩
    · intro δ5 μ5 F5 σ5 H5 q5 g5 m5
      exact ⟨F5, δ5, μ5, gg.trans g5, m5, q5⟩
    · exact (e1.step gg).nx
    · intro δ5 μ5 F5 σ5 H5 q5 g5 m5
      exact ⟨F5, δ5, μ5, gg.trans g5, m5, q5⟩
  · have ei : i = items.length := by omega
    subst ei
    rw [List.drop_length] at q2
    obtain ⟨hG, q2⟩ := q2
    exact .inl ⟨(io F2 H2 μ2 g2.ff m2.wd hG).2 _ (Nat.le_refl _), e1.nx _ _ _ _ _ q2 g2 m2⟩

/-! ### while -/
def jWhile (c : TT2) (tb : TS2) : TS2 := fun D δ μ => ∃ W : Nat → Sg → Mu → Prop, (∃ m, W m δ μ) ∧ ∀ m δ μ, W m δ μ → c δ μ fun b μ1 => if b = true then tb { D with nx := fun δ' μ' => ∃ m', m' < m ∧ W m' δ' μ', ct := fun δ' μ' => ∃ m', m' < m ∧ W m' δ' μ', bk := D.nx } δ μ1 else D.nx δ μ1
theorem js_while {c : Expr} {body : List Stmt} {pos : Pos} {tc : TT2} {tb : TS2} (hp : PassesOwn (model X.prog X.w) X.A X.env X.xe) (hc : T2 X Z c tc) (hb : B2 X Z body tb) : S2 X Z (.While c body [] pos) (jWhile tc tb) := by
  refine ps_imp (ps_while hp hc hb) ?_
  rintro D σ H ⟨F, δ, μ, D2, mm, ⟨W, ⟨m0, w0⟩, turn⟩, e⟩
  refine ⟨fun n σ' H' => ∃ F' δ' μ', Gr F H μ F' H' μ' ∧ Mt X.K Z F' σ' H' δ' μ' ∧ W n δ' μ', ⟨m0, F, δ, μ, .refl, mm, w0⟩, ?_⟩
  rintro n σ1 H1 ⟨F1, δ1, μ1, g1, m1, w1⟩
  refine ⟨F1, δ1, μ1, _, m1, turn n δ1 μ1 w1, ?_⟩
  rintro b μ2 F2 H2 q2 g2 w2
  have gg := g1.trans g2
  have m2 := m1.step g2 w2
  cases b with
  | true =>
    rw [if_pos rfl] at q2 ⊢
    refine ⟨fun σ' H' => ∃ m', m' < n ∧ ∃ F' δ' μ', Gr F H μ F' H' μ' ∧ Mt X.K Z F' σ' H' δ' μ' ∧ W m' δ' μ', fun σ' H' z => z, F2, δ1, μ2, _, m2, q2, ?_, (e.step gg).rt, (e.step gg).nx, ?_⟩
    · rintro δ5 μ5 F5 σ5 H5 ⟨m', hm, q5⟩ g5 m5
      exact ⟨m', hm, F5, δ5, μ5, gg.trans g5, m5, q5⟩
    · rintro δ5 μ5 F5 σ5 H5 ⟨m', hm, q5⟩ g5 m5
      exact ⟨m', hm, F5, δ5, μ5, gg.trans g5, m5, q5⟩
  | false =>
    rw [if_neg Bool.false_ne_true] at q2 ⊢
    exact e.nx _ _ _ _ _ q2 gg m2
end
end J

namespace J
open PySem PySem.Spec PyProof.Rows L2

section
variable {X : Cx}
/-! ### views -/
def LstAt (μ : Mu) (d : D) (xs : List D) : Prop := d = .lst xs ∨ ∃ a, d = .ref a ∧ μ a = some (.lst xs)
def SeqAt (μ : Mu) (d : D) (xs : List D) : Prop := LstAt μ d xs ∨ d = .rol xs
def DctAt (μ : Mu) (d : D) (xs : List (Key × D)) : Prop := d = .dct xs ∨ ∃ a, d = .ref a ∧ μ a = some (.dct xs)
theorem LstAt.f {μ : Mu} {xs : List D} : LstAt μ (.lst xs) xs := .inl rfl
theorem LstAt.m {μ : Mu} {a : Addr} {xs : List D} (h : μ a = some (.lst xs)) : LstAt μ (.ref a) xs := .inr ⟨a, rfl, h⟩
theorem SeqAt.f {μ : Mu} {xs : List D} : SeqAt μ (.lst xs) xs := .inl (.inl rfl)
theorem SeqAt.r {μ : Mu} {xs : List D} : SeqAt μ (.rol xs) xs := .inr rfl
theorem SeqAt.m {μ : Mu} {a : Addr} {xs : List D} (h : μ a = some (.lst xs)) : SeqAt μ (.ref a) xs := .inl (.inr ⟨a, rfl, h⟩)
theorem DctAt.f {μ : Mu} {xs : List (Key × D)} : DctAt μ (.dct xs) xs := .inl rfl
theorem DctAt.m {μ : Mu} {a : Addr} {xs : List (Key × D)} (h : μ a = some (.dct xs)) : DctAt μ (.ref a) xs := .inr ⟨a, rfl, h⟩
section
variable {K : PySem.W.Frag} {F H : Hp} {μ : Mu} {v : V} {d : D}
theorem lst_at {xs : List D} (w : Wd K F H μ) (r : Rep K F v d) (h : LstAt μ d xs) : ∃ a vs, v = .ref a ∧ H a = some (.lst vs) ∧ Reps K F vs xs := by
  rcases h with rfl | ⟨a, rfl, h⟩
  · cases r with
    | lst h rs => exact ⟨_, _, rfl, w.sub _ _ h, rs⟩
  · cases r
    obtain ⟨_, ho, h1, h2⟩ := w.mts a _ h
    cases h2 with
    | lst rs => exact ⟨a, _, rfl, h1, rs⟩
theorem seq_at {xs : List D} (w : Wd K F H μ) (r : Rep K F v d) (h : SeqAt μ d xs) : ∃ a vs, v = .ref a ∧ SqL K H a vs ∧ Reps K F vs xs := by
  rcases h with h | rfl
  · obtain ⟨a, vs, e, h1, rs⟩ := lst_at w r h
    exact ⟨a, vs, e, SqL.of h1, rs⟩
  · cases r with
    | rol h rs => exact ⟨_, _, rfl, w.sub.seq h, rs⟩
theorem tup_at {xs : List D} (w : Wd K F H μ) (r : Rep K F v (.tup xs)) : ∃ a vs, v = .ref a ∧ SqT K H a vs ∧ Reps K F vs xs := by
  cases r with
  | tup h rs => exact ⟨_, _, rfl, sqt_mono w.sub h, rs⟩
theorem dct_at {xs : List (Key × D)} (w : Wd K F H μ) (r : Rep K F v d) (h : DctAt μ d xs) : ∃ a vs, v = .ref a ∧ H a = some (.dK vs) ∧ RepK K F vs xs := by
  rcases h with rfl | ⟨a, rfl, h⟩
  · cases r with
    | dct h rs => exact ⟨_, _, rfl, w.sub _ _ h, rs⟩
  · cases r
    obtain ⟨_, ho, h1, h2⟩ := w.mts a _ h
    cases h2 with
    | dct rs => exact ⟨a, _, rfl, h1, rs⟩
theorem mlst_at {a : Addr} {xs : List D} (w : Wd K F H μ) (h : μ a = some (.lst xs)) : ∃ vs, H a = some (.lst vs) ∧ Reps K F vs xs := by
  obtain ⟨_, ho, h1, h2⟩ := w.mts a _ h
  cases h2 with
  | lst rs => exact ⟨_, h1, rs⟩
theorem mdct_at {a : Addr} {xs : List (Key × D)} (w : Wd K F H μ) (h : μ a = some (.dct xs)) : ∃ vs, H a = some (.dK vs) ∧ RepK K F vs xs := by
  obtain ⟨_, ho, h1, h2⟩ := w.mts a _ h
  cases h2 with
  | dct rs => exact ⟨_, h1, rs⟩
theorem atI_rep {vs : List V} {xs : List D} {i : Int} (rs : Reps K F vs xs) (h : atI xs i = some d) : ∃ v, atI vs i = some v ∧ Rep K F v d := by
  unfold atI at h ⊢
  rw [rs.length]
  cases e : ixN xs.length i with
  | none => rw [e] at h; cases h
  | some j =>
    rw [e] at h
    exact rs.get h
theorem tr {F1 H1 : Hp} {Q0 : QE} {Q : VK} {μ1 : Mu} (k : ∀ d' μ' F' H' v, Q0 d' μ' → Gr F H μ F' H' μ' → Wd K F' H' μ' → Rep K F' v d' → Q v H') (g : Gr F H μ F1 H1 μ1) :
    ∀ d' μ' F' H' v, Q0 d' μ' → Gr F1 H1 μ1 F' H' μ' → Wd K F' H' μ' → Rep K F' v d' → Q v H' := fun d' μ' F' H' v q g' w r => k d' μ' F' H' v q (g.trans g') w r
end

/-! ### arithmetic -/
def add2 : O2
  | .int i, .int j, μ, Q => Q (.int (i + j)) μ
  | .str x, .str y, μ, Q => x.length + y.length ≤ sizeLine ∧ Q (.str (x ++ y)) μ
  | .tup xs, .tup ys, μ, Q => xs.length + ys.length ≤ sizeLine ∧ Q (.tup (xs ++ ys)) μ
  | .int i, .bl b, μ, Q => Q (.int (i + b2i b)) μ
  | x, y, μ, Q => ∃ xs ys, LstAt μ x xs ∧ LstAt μ y ys ∧ xs.length + ys.length ≤ sizeLine ∧ NewL (xs ++ ys) μ Q
theorem add_lists {pins : List (Addr × Obj)} {s : Shared} {σ : Sv} {H : Hp} {x y : V} {v u : Value} {Q : VK} {F : Hp} {μ : Mu} {d e : D} {Q0 : QE} (I : Inv X pins σ H s) (rx : RelV x v) (ry : RelV y u) (w : Wd X.K F H μ) (r1 : Rep X.K F x d) (r2 : Rep X.K F y e)
    (q : ∃ xs ys, LstAt μ d xs ∧ LstAt μ e ys ∧ xs.length + ys.length ≤ sizeLine ∧ NewL (xs ++ ys) μ Q0) (k : ∀ d' μ' F' H' v, Q0 d' μ' → Gr F H μ F' H' μ' → Wd X.K F' H' μ' → Rep X.K F' v d' → Q v H') : wpAny (model X.prog X.w) X.A (binaryOp .Add v u) (EP X pins σ Q) X.xe s := by
  obtain ⟨xs, ys, hx, hy, hl, n⟩ := q
  obtain ⟨a, vs, rfl, ha, rs⟩ := lst_at w r1 hx
  obtain ⟨b, us, rfl, hb, rs2⟩ := lst_at w r2 hy
  exact op_cat pins s σ H _ _ v u Q I rx ry ⟨a, b, vs, us, rfl, rfl, ha, hb, by rw [rs.length, rs2.length]; exact hl, fun p hp => newL_ok w hp (rs.append rs2) n k⟩
theorem oadd : OpR X (binaryOp .Add) (lowO2 X.K add2) := by
  rintro pins s σ H x y v u Q I rx ry ⟨F, μ, d, e, Q0, w, r1, r2, q, k⟩
  cases d <;> cases e <;> first
    | exact add_lists I rx ry w r1 r2 q k
    | skip
  · cases r1; cases r2
    exact op_add_ib pins s σ H _ _ v u Q I rx ry ⟨_, _, rfl, rfl, k _ _ _ _ _ q .refl w .int⟩
  · cases r1; cases r2
    exact op_add pins s σ H _ _ v u Q I rx ry ⟨_, _, rfl, rfl, k _ _ _ _ _ q .refl w .int⟩
  · cases r1; cases r2
    exact op_add_str pins s σ H _ _ v u Q I rx ry ⟨_, _, rfl, rfl, q.1, k _ _ _ _ _ q.2 .refl w .str⟩
  · obtain ⟨a, vs, rfl, ha, rs⟩ := tup_at w r1
    obtain ⟨b, us, rfl, hb, rs2⟩ := tup_at w r2
    refine op_catA pins s σ H _ _ v u Q I rx ry ⟨a, b, vs, us, rfl, rfl, ha, hb, by rw [rs.length, rs2.length]; exact q.1, ?_⟩
    have hl := rs.length
    have hl2 := rs2.length
    refine ⟨fun e => ?_, fun _ e => ?_, fun _ _ p hp => ?_⟩
    · subst e
      cases rs
      exact k _ _ _ _ _ q.2 .refl w r2
    · subst e
      cases rs2
      have q2 := q.2
      rw [List.append_nil] at q2
      exact k _ _ _ _ _ q2 .refl w r1
    · exact newT_ok w hp (rs.append rs2) q.2 k
def sub2 : O2
  | .int i, .int j, μ, Q => Q (.int (i - j)) μ
  | _, _, _, _ => False
theorem osub : OpR X (binaryOp .Sub) (lowO2 X.K sub2) := by
  rintro pins s σ H x y v u Q I rx ry ⟨F, μ, d, e, Q0, w, r1, r2, q, k⟩
  cases d <;> cases e <;> first | exact False.elim q | skip
  cases r1; cases r2
  exact op_sub pins s σ H _ _ v u Q I rx ry ⟨_, _, rfl, rfl, k _ _ _ _ _ q .refl w .int⟩
def mul2 : O2
  | .int i, .int j, μ, Q => (CMul i j ∨ CMulW i j) ∧ Q (.int (i * j)) μ
  | x, .int n, μ, Q => ∃ xs, LstAt μ x xs ∧ -(2 ^ 63) ≤ n ∧ n < 2 ^ 63 ∧ xs.length * n.toNat ≤ sizeLine ∧ NewL (List.replicate n.toNat xs).flatten μ Q
  | _, _, _, _ => False
theorem Reps.rep {K : PySem.W.Frag} {F : Hp} {vs : List V} {ds : List D} (h : Reps K F vs ds) : ∀ k : Nat, Reps K F (List.replicate k vs).flatten (List.replicate k ds).flatten
  | 0 => .nil
  | k + 1 => by
    rw [List.replicate_succ, List.replicate_succ, List.flatten_cons, List.flatten_cons]
    exact h.append (Reps.rep h k)
theorem mul_lists {pins : List (Addr × Obj)} {s : Shared} {σ : Sv} {H : Hp} {x y : V} {v u : Value} {Q : VK} {F : Hp} {μ : Mu} {d : D} {n : Int} {Q0 : QE} (I : Inv X pins σ H s) (rx : RelV x v) (ry : RelV y u) (w : Wd X.K F H μ) (r1 : Rep X.K F x d) (r2 : Rep X.K F y (.int n))
    (q : ∃ xs, LstAt μ d xs ∧ -(2 ^ 63) ≤ n ∧ n < 2 ^ 63 ∧ xs.length * n.toNat ≤ sizeLine ∧ NewL (List.replicate n.toNat xs).flatten μ Q0) (k : ∀ d' μ' F' H' v, Q0 d' μ' → Gr F H μ F' H' μ' → Wd X.K F' H' μ' → Rep X.K F' v d' → Q v H') : wpAny (model X.prog X.w) X.A (binaryOp .Mult v u) (EP X pins σ Q) X.xe s := by
  obtain ⟨xs, hx, h1, h2, hl, nl⟩ := q
  obtain ⟨a, vs, rfl, ha, rs⟩ := lst_at w r1 hx
  cases r2
  exact op_rep pins s σ H _ _ v u Q I rx ry ⟨a, n, vs, rfl, rfl, ha, h1, h2, by rw [rs.length]; exact hl, fun p hp => newL_ok w hp (rs.rep _) nl k⟩
theorem omul : OpR X (binaryOp .Mult) (lowO2 X.K mul2) := by
  rintro pins s σ H x y v u Q I rx ry ⟨F, μ, d, e, Q0, w, r1, r2, q, k⟩
  cases e <;> first | (cases d <;> exact False.elim q) | skip
  cases d <;> first | exact mul_lists I rx ry w r1 r2 q k | skip
  cases r1; cases r2
  rcases q with ⟨h | h, q⟩
  · exact op_mul pins s σ H _ _ v u Q I rx ry ⟨_, _, rfl, rfl, h, k _ _ _ _ _ q .refl w .int⟩
  · exact op_mulW pins s σ H _ _ v u Q I rx ry ⟨_, _, rfl, rfl, h, k _ _ _ _ _ q .refl w .int⟩
/-- two ints, under a word -/
def int2 (C : Int → Int → Prop) (g : Int → Int → D) : O2
  | .int i, .int j, μ, Q => C i j ∧ Q (g i j) μ
  | _, _, _, _ => False
theorem oint {f : Value → Value → Sem Value} {C : Int → Int → Prop} {g : Int → Int → Int} (h : OpR X f (rI C fun i j => .int (g i j))) : OpR X f (lowO2 X.K (int2 C fun i j => .int (g i j))) := by
  rintro pins s σ H x y v u Q I rx ry ⟨F, μ, d, e, Q0, w, r1, r2, q, k⟩
  cases d <;> cases e <;> first | exact False.elim q | skip
  cases r1; cases r2
  exact h pins s σ H _ _ v u Q I rx ry ⟨_, _, rfl, rfl, q.1, k _ _ _ _ _ q.2 .refl w .int⟩
abbrev fdiv2 : O2 := int2 CDivW fun i j => .int (i / j)
abbrev mod2 : O2 := int2 (fun _ j => 0 < j) fun i j => .int (i % j)
abbrev pow2 : O2 := int2 CPow fun i j => .int (i ^ j.toNat)
abbrev shr2 : O2 := int2 (fun _ j => 0 ≤ j) fun i j => .int (i / 2 ^ j.toNat)
theorem ofdiv : OpR X (binaryOp .FloorDiv) (lowO2 X.K fdiv2) := oint op_fdivW
theorem omod : OpR X (binaryOp .Mod) (lowO2 X.K mod2) := oint op_mod
theorem opow : OpR X (binaryOp .Pow) (lowO2 X.K pow2) := oint op_pow
theorem oshr : OpR X (binaryOp .RShift) (lowO2 X.K shr2) := oint op_shr
def neg1 : O1
  | .int i, μ, Q => Q (.int (-i)) μ
  | _, _, _ => False
theorem oneg : UnR X (unaryOp .USub) (lowO1 X.K neg1) := by
  rintro pins s σ H x v Q I rx ⟨F, μ, d, Q0, w, r1, q, k⟩
  cases d <;> first | exact False.elim q | skip
  cases r1
  exact un_neg pins s σ H _ v Q I rx ⟨_, rfl, k _ _ _ _ _ q .refl w .int⟩

/-! ### comparisons -/
def cmp2 (ci : Int → Int → Bool) (cs : Str → Str → Bool) : O2
  | .int i, .int j, μ, Q => Q (.bl (ci i j)) μ
  | .str x, .str y, μ, Q => Q (.bl (cs x y)) μ
  | _, _, _, _ => False
theorem ocmp {f : Value → Value → Sem Value} {ci : Int → Int → Bool} {cs : Str → Str → Bool} (h : OpR X f (rI0 fun i j => .bl (ci i j))) (h2 : OpR X f (fun x y H Q => ∃ i j, x = .str i ∧ y = .str j ∧ Q (.bl (cs i j)) H)) : OpR X f (lowO2 X.K (cmp2 ci cs)) := by
  rintro pins s σ H x y v u Q I rx ry ⟨F, μ, d, e, Q0, w, r1, r2, q, k⟩
  cases d <;> cases e <;> first | exact False.elim q | skip
  · cases r1; cases r2
    exact h pins s σ H _ _ v u Q I rx ry ⟨_, _, rfl, rfl, k _ _ _ _ _ q .refl w .bl⟩
  · cases r1; cases r2
    exact h2 pins s σ H _ _ v u Q I rx ry ⟨_, _, rfl, rfl, k _ _ _ _ _ q .refl w .bl⟩
abbrev slt (x y : Str) : Bool := decide (x.cps.toList < y.cps.toList)
abbrev lt2 : O2 := cmp2 (fun i j => decide (i < j)) slt
abbrev le2 : O2 := cmp2 (fun i j => decide (i ≤ j)) fun x y => !slt y x
abbrev gt2 : O2 := cmp2 (fun i j => decide (j < i)) fun x y => slt y x
abbrev ge2 : O2 := cmp2 (fun i j => decide (j ≤ i)) fun x y => !slt x y
theorem olt : OpR X (compareOp .Lt) (lowO2 X.K lt2) := ocmp op_lt op_lt_str
theorem ole : OpR X (compareOp .LtE) (lowO2 X.K le2) := ocmp op_le op_le_str
theorem ogt : OpR X (compareOp .Gt) (lowO2 X.K gt2) := ocmp op_gt op_gt_str
theorem oge : OpR X (compareOp .GtE) (lowO2 X.K ge2) := ocmp op_ge op_ge_str

/-! ### data that is compared deeply -/
mutual
def D.py : D → PyData
  | .non => .none
  | .bl b => .bool b
  | .int i => .int i
  | .str x => .str x
  | .tup xs => .tuple (D.pys xs)
  | .lst xs => .list (D.pys xs)
  | .rol xs => .list (D.pys xs)
  | .ty _ => .none
  | .ref _ => .none
  | .dct _ => .none
  | .ins _ _ => .none
def D.pys : List D → List PyData
  | [] => []
  | x :: xs => x.py :: D.pys xs
end
mutual
def D.pl : D → Bool
  | .non => true
  | .bl _ => true
  | .int _ => true
  | .str _ => true
  | .tup xs => D.pls xs
  | .lst xs => D.pls xs
  | .rol xs => D.pls xs
  | .ty _ => false
  | .ref _ => false
  | .dct _ => false
  | .ins _ _ => false
def D.pls : List D → Bool
  | [] => true
  | x :: xs => x.pl && D.pls xs
end
section
variable {K : PySem.W.Frag} {F H : Hp}
mutual
theorem Rep.dp (e : Same F H) {v : V} {d : D} (h : Rep K F v d) (p : d.pl = true) : Dp K H v d.py := by
  cases h with
  | non => exact .non
  | bl => exact .bl _
  | int => exact .int _
  | str => exact .str _
  | ty => simp [D.pl] at p
  | ref => simp [D.pl] at p
  | tup h r => rw [D.py]; exact .tup (sqt_mono e h) (Reps.dp e r (by simpa [D.pl] using p))
  | lst h r => rw [D.py]; exact .lst (SqL.of (e _ _ h)) (Reps.dp e r (by simpa [D.pl] using p))
  | rol h r => rw [D.py]; exact .lst (e.seq h) (Reps.dp e r (by simpa [D.pl] using p))
  | dct h r => simp [D.pl] at p
  | ins h r => simp [D.pl] at p
theorem Reps.dp (e : Same F H) {v : List V} {d : List D} (h : Reps K F v d) (p : D.pls d = true) : DpAll K H v (D.pys d) := by
  cases h with
  | nil => rw [D.pys]; exact .nil
  | cons h r =>
    rw [D.pls, Bool.and_eq_true] at p
    rw [D.pys]
    exact .cons (Rep.dp e h p.1) (Reps.dp e r p.2)
end
end
/-- a value as data: itself, or what stands in a list that may change -/
def Vw (μ : Mu) (x d : D) : Prop := x = d ∨ ∃ a xs, x = .ref a ∧ μ a = some (.lst xs) ∧ d = .lst xs
theorem Vw.f {μ : Mu} {x : D} : Vw μ x x := .inl rfl
theorem Vw.m {μ : Mu} {a : Addr} {xs : List D} (h : μ a = some (.lst xs)) : Vw μ (.ref a) (.lst xs) := .inr ⟨a, xs, rfl, h, rfl⟩
theorem vw_dp {K : PySem.W.Frag} {F H : Hp} {μ : Mu} {v : V} {x d : D} (w : Wd K F H μ) (r : Rep K F v x) (h : Vw μ x d) (p : d.pl = true) : Dp K H v d.py := by
  rcases h with rfl | ⟨a, xs, rfl, h, rfl⟩
  · exact r.dp w.sub p
  · cases r
    obtain ⟨vs, h1, rs⟩ := mlst_at w h
    rw [D.py]
    exact .lst (SqL.of h1) (rs.dp w.sub (by simpa [D.pl] using p))
def eqD (neg : Bool) (x y : D) (μ : Mu) (Q : QE) : Prop := ∃ dx dy, Vw μ x dx ∧ Vw μ y dy ∧ dx.pl = true ∧ dy.pl = true ∧ SeqAt.shaped dx.py = true ∧ SeqAt.shaped dy.py = true ∧ Q (.bl (neg ^^ PyData.eqv dx.py dy.py)) μ
def eq2 : O2
  | .non, .non, μ, Q => Q (.bl true) μ
  | .non, .int _, μ, Q => Q (.bl false) μ
  | .non, .bl _, μ, Q => Q (.bl false) μ
  | .non, .str _, μ, Q => Q (.bl false) μ
  | .int _, .non, μ, Q => Q (.bl false) μ
  | .int i, .int j, μ, Q => Q (.bl (decide (i = j))) μ
  | .int _, .str _, μ, Q => Q (.bl false) μ
  | .bl _, .non, μ, Q => Q (.bl false) μ
  | .bl i, .bl j, μ, Q => Q (.bl (decide (i = j))) μ
  | .bl _, .str _, μ, Q => Q (.bl false) μ
  | .str _, .non, μ, Q => Q (.bl false) μ
  | .str _, .int _, μ, Q => Q (.bl false) μ
  | .str _, .bl _, μ, Q => Q (.bl false) μ
  | .str i, .str j, μ, Q => Q (.bl (decide (i = j))) μ
  | x, y, μ, Q => eqD false x y μ Q
def ne2 : O2
  | .non, .non, μ, Q => Q (.bl false) μ
  | .non, .int _, μ, Q => Q (.bl true) μ
  | .non, .bl _, μ, Q => Q (.bl true) μ
  | .non, .str _, μ, Q => Q (.bl true) μ
  | .int _, .non, μ, Q => Q (.bl true) μ
  | .int i, .int j, μ, Q => Q (.bl (!decide (i = j))) μ
  | .int _, .str _, μ, Q => Q (.bl true) μ
  | .bl _, .non, μ, Q => Q (.bl true) μ
  | .bl i, .bl j, μ, Q => Q (.bl (!decide (i = j))) μ
  | .bl _, .str _, μ, Q => Q (.bl true) μ
  | .str _, .non, μ, Q => Q (.bl true) μ
  | .str _, .int _, μ, Q => Q (.bl true) μ
  | .str _, .bl _, μ, Q => Q (.bl true) μ
  | .str i, .str j, μ, Q => Q (.bl (!decide (i = j))) μ
  | x, y, μ, Q => eqD true x y μ Q
theorem eqD_ok (hu : X.A.units + 64 < cLine) {pins : List (Addr × Obj)} {s : Shared} {σ : Sv} {H : Hp} {x y : V} {v u : Value} {Q : VK} {F : Hp} {μ : Mu} {d e : D} {Q0 : QE} (I : Inv X pins σ H s) (rx : RelV x v) (ry : RelV y u) (w : Wd X.K F H μ) (r1 : Rep X.K F x d) (r2 : Rep X.K F y e)
    (q : eqD false d e μ Q0) (k : ∀ d' μ' F' H' v, Q0 d' μ' → Gr F H μ F' H' μ' → Wd X.K F' H' μ' → Rep X.K F' v d' → Q v H') : wpAny (model X.prog X.w) X.A (compareOp .Eq v u) (EP X pins σ Q) X.xe s := by
  obtain ⟨dx, dy, h1, h2, p1, p2, s1, s2, q⟩ := q
  rw [Bool.false_xor] at q
  exact op_eqD hu pins s σ H _ _ v u Q I rx ry ⟨_, _, vw_dp w r1 h1 p1, vw_dp w r2 h2 p2, s1, s2, k _ _ _ _ _ q .refl w .bl⟩
theorem neD_ok (hu : X.A.units + 64 < cLine) {pins : List (Addr × Obj)} {s : Shared} {σ : Sv} {H : Hp} {x y : V} {v u : Value} {Q : VK} {F : Hp} {μ : Mu} {d e : D} {Q0 : QE} (I : Inv X pins σ H s) (rx : RelV x v) (ry : RelV y u) (w : Wd X.K F H μ) (r1 : Rep X.K F x d) (r2 : Rep X.K F y e)
    (q : eqD true d e μ Q0) (k : ∀ d' μ' F' H' v, Q0 d' μ' → Gr F H μ F' H' μ' → Wd X.K F' H' μ' → Rep X.K F' v d' → Q v H') : wpAny (model X.prog X.w) X.A (compareOp .NotEq v u) (EP X pins σ Q) X.xe s := by
  obtain ⟨dx, dy, h1, h2, p1, p2, s1, s2, q⟩ := q
  rw [Bool.true_xor] at q
  exact op_neD hu pins s σ H _ _ v u Q I rx ry ⟨_, _, vw_dp w r1 h1 p1, vw_dp w r2 h2 p2, s1, s2, k _ _ _ _ _ q .refl w .bl⟩
theorem oeq (hu : X.A.units + 64 < cLine) : OpR X (compareOp .Eq) (lowO2 X.K eq2) := by
  rintro pins s σ H x y v u Q I rx ry ⟨F, μ, d, e, Q0, w, r1, r2, q, k⟩
  cases d <;> cases e <;> first
    | exact eqD_ok hu I rx ry w r1 r2 q k
    | (cases r1; cases r2; exact op_eq pins s σ H _ _ v u Q I rx ry ⟨rfl, k _ _ _ _ _ (by simpa [eq2] using q) .refl w .bl⟩)
theorem one_ (hu : X.A.units + 64 < cLine) : OpR X (compareOp .NotEq) (lowO2 X.K ne2) := by
  rintro pins s σ H x y v u Q I rx ry ⟨F, μ, d, e, Q0, w, r1, r2, q, k⟩
  cases d <;> cases e <;> first
    | exact neD_ok hu I rx ry w r1 r2 q k
    | (cases r1; cases r2; exact op_ne pins s σ H _ _ v u Q I rx ry ⟨rfl, k _ _ _ _ _ (by simpa [ne2] using q) .refl w .bl⟩)

/-! ### is -/
def is2 (neg : Bool) : O2
  | .bl i, .bl j, μ, Q => Q (.bl (neg ^^ decide (i = j))) μ
  | .non, .non, μ, Q => Q (.bl (neg ^^ true)) μ
  | _, .non, μ, Q => Q (.bl (neg ^^ false)) μ
  | _, _, _, _ => False
theorem Rep.non_iff {K : PySem.W.Frag} {F : Hp} {v : V} {d : D} (r : Rep K F v d) : v = .non ↔ d = .non := by
  cases r <;> simp
theorem ois : OpR X (compareOp .Is) (lowO2 X.K (is2 false)) := by
  rintro pins s σ H x y v u Q I rx ry ⟨F, μ, d, e, Q0, w, r1, r2, q, k⟩
  cases e <;> first | (cases d <;> exact False.elim q) | skip
  · cases r2
    have hn := r1.non_iff
    refine op_isN pins s σ H _ _ v u Q I rx ry ⟨rfl, ?_⟩
    cases d <;> first
      | (rw [decide_eq_true (hn.mpr rfl)]; exact k _ _ _ _ _ q .refl w .bl)
      | (rw [decide_eq_false (fun z => by have := hn.mp z; cases this)]; exact k _ _ _ _ _ q .refl w .bl)
  · cases d <;> first | exact False.elim q | skip
    cases r1; cases r2
    refine op_isBl pins s σ H _ _ v u Q I rx ry ⟨_, _, rfl, rfl, k _ _ _ _ _ ?_ .refl w .bl⟩
    have q' : Q0 (.bl (false ^^ decide (_ = _))) μ := q
    rw [Bool.false_xor] at q'
    exact q'
theorem oisnot : OpR X (compareOp .IsNot) (lowO2 X.K (is2 true)) := by
  rintro pins s σ H x y v u Q I rx ry ⟨F, μ, d, e, Q0, w, r1, r2, q, k⟩
  cases e <;> first | (cases d <;> exact False.elim q) | skip
  · cases r2
    have hn := r1.non_iff
    refine op_notN pins s σ H _ _ v u Q I rx ry ⟨rfl, ?_⟩
    cases d <;> first
      | (rw [decide_eq_true (hn.mpr rfl)]; exact k _ _ _ _ _ q .refl w .bl)
      | (rw [decide_eq_false (fun z => by have := hn.mp z; cases this)]; exact k _ _ _ _ _ q .refl w .bl)
  · cases d <;> first | exact False.elim q | skip
    cases r1; cases r2
    refine op_notBl pins s σ H _ _ v u Q I rx ry ⟨_, _, rfl, rfl, k _ _ _ _ _ ?_ .refl w .bl⟩
    have q' : Q0 (.bl (true ^^ decide (_ = _))) μ := q
    rw [Bool.true_xor] at q'
    exact q'

/-! ### in -/
def D.fl : D → Bool
  | .non => true
  | .bl _ => true
  | .int _ => true
  | .str _ => true
  | _ => false
def eqF : D → D → Bool
  | .non, .non => true
  | .bl a, .bl b => a == b
  | .bl a, .int b => (if a then 1 else 0) == b
  | .int a, .bl b => a == (if b then 1 else 0)
  | .int a, .int b => a == b
  | .str a, .str b => a == b
  | _, _ => false
def inF (x : D) (xs : List D) : Bool := xs.any fun y => eqF y x
theorem Rep.fl {K : PySem.W.Frag} {F : Hp} {v : V} {d : D} (r : Rep K F v d) (h : d.fl = true) : flatV v = true := by
  cases r <;> first | rfl | (simp [D.fl] at h)
theorem Reps.fl {K : PySem.W.Frag} {F : Hp} : ∀ {vs : List V} {ds : List D}, Reps K F vs ds → ds.all D.fl = true → vs.all flatV = true
  | _, _, .nil, _ => rfl
  | _, _, .cons r t, h => by
    rw [List.all_cons, Bool.and_eq_true] at h ⊢
    exact ⟨r.fl h.1, Reps.fl t h.2⟩
theorem Rep.eqF {K : PySem.W.Frag} {F : Hp} {v u : V} {d e : D} (r : Rep K F v d) (r2 : Rep K F u e) (h : d.fl = true) (h2 : e.fl = true) : eqV v u = J.eqF d e := by
  cases r <;> cases r2 <;> first | rfl | (simp [D.fl] at h) | (simp [D.fl] at h2)
theorem Reps.inF {K : PySem.W.Frag} {F : Hp} {x : V} {d : D} (r : Rep K F x d) (h : d.fl = true) : ∀ {vs : List V} {ds : List D}, Reps K F vs ds → ds.all D.fl = true → inV x vs = J.inF d ds
  | _, _, .nil, _ => rfl
  | _, _, .cons q t, hh => by
    rw [List.all_cons, Bool.and_eq_true] at hh
    have ih := Reps.inF r h t hh.2
    unfold inV J.inF at ih ⊢
    rw [List.any_cons, List.any_cons, ih, q.eqF r hh.1 h]
def keyD : D → Option Key
  | .int i => some (.inl i)
  | .str x => some (.inr x)
  | _ => none
theorem keyD_rep {K : PySem.W.Frag} {F : Hp} {v : V} {d : D} {k : Key} (r : Rep K F v d) (h : keyD d = some k) : v = kV k := by
  cases r <;> first | (simp [keyD] at h; done) | (simp [keyD] at h; subst h; rfl)
def valD (kvs : List (Key × D)) (k : Key) : Option D := (kvs.find? fun kv => decide (kv.1 = k)).map (·.2)
def putKD (kvs : List (Key × D)) (k : Key) (v : D) : List (Key × D) :=
  if (kvs.any fun kv => decide (kv.1 = k)) = true then kvs.map fun kv => if kv.1 = k then (kv.1, v) else kv else kvs ++ [(k, v)]
def dropKD (kvs : List (Key × D)) (k : Key) : List (Key × D) := kvs.filter fun kv => decide (kv.1 ≠ k)
section
variable {K : PySem.W.Frag} {F : Hp}
theorem valD_nil {k : Key} : valD [] k = none := rfl
theorem valD_pos {p : Key × D} {r : List (Key × D)} {k : Key} (e : p.1 = k) : valD (p :: r) k = some p.2 := by simp [valD, List.find?_cons, e]
theorem valD_neg {p : Key × D} {r : List (Key × D)} {k : Key} (e : ¬ p.1 = k) : valD (p :: r) k = valD r k := by simp [valD, List.find?_cons, e]
theorem RepK.val (k : Key) : ∀ {kvs : List (Key × V)} {ds : List (Key × D)}, RepK K F kvs ds → (∀ d, valD ds k = some d → ∃ v, valV kvs k = some v ∧ Rep K F v d) ∧ (valD ds k = none → valV kvs k = none)
  | _, _, .nil => ⟨fun _ h => (by simp [valD] at h), fun _ => rfl⟩
  | _, _, .cons (k := k') r t => by
    have ih := RepK.val k t
    by_cases h : k' = k
    · rw [valD_pos (p := (k', _)) h, valV_pos (p := (k', _)) h]
      exact ⟨fun d e => ⟨_, rfl, by cases e; exact r⟩, fun e => by cases e⟩
    · rw [valD_neg (p := (k', _)) h, valV_neg (p := (k', _)) h]
      exact ih
theorem RepK.isSome {kvs : List (Key × V)} {ds : List (Key × D)} (r : RepK K F kvs ds) (k : Key) : (valV kvs k).isSome = (valD ds k).isSome := by
  have h := r.val k
  cases e : valD ds k with
  | none =>
    rw [h.2 e]
    rfl
  | some d =>
    obtain ⟨v, e1, _⟩ := h.1 d e
    rw [e1]
    rfl
theorem RepK.any (k : Key) : ∀ {kvs : List (Key × V)} {ds : List (Key × D)}, RepK K F kvs ds → (kvs.any fun kv => decide (kv.1 = k)) = ds.any fun kv => decide (kv.1 = k)
  | _, _, .nil => rfl
  | _, _, .cons r t => by rw [List.any_cons, List.any_cons, RepK.any k t]
theorem RepK.repl (k : Key) {v : V} {d : D} (r : Rep K F v d) : ∀ {kvs : List (Key × V)} {ds : List (Key × D)}, RepK K F kvs ds → RepK K F (kvs.map fun kv => if kv.1 = k then (kv.1, v) else kv) (ds.map fun kv => if kv.1 = k then (kv.1, d) else kv)
  | _, _, .nil => .nil
  | _, _, .cons (k := k') q t => by
    rw [List.map_cons, List.map_cons]
    by_cases h : k' = k
    · simp only [h, if_true]
      exact .cons r (RepK.repl k r t)
    · simp only [h, if_false]
      exact .cons q (RepK.repl k r t)
theorem RepK.append : ∀ {kvs kws : List (Key × V)} {ds es : List (Key × D)}, RepK K F kvs ds → RepK K F kws es → RepK K F (kvs ++ kws) (ds ++ es)
  | _, _, _, _, .nil, s => s
  | _, _, _, _, .cons r t, s => .cons r (RepK.append t s)
theorem RepK.put {k : Key} {v : V} {d : D} (r : Rep K F v d) {kvs : List (Key × V)} {ds : List (Key × D)} (h : RepK K F kvs ds) : RepK K F (putK kvs k v) (putKD ds k d) := by
  unfold putK putKD
  rw [h.any k]
  split
  · exact h.repl k r
  · exact h.append (.cons r .nil)
theorem RepK.dropK {k : Key} : ∀ {kvs : List (Key × V)} {ds : List (Key × D)}, RepK K F kvs ds → RepK K F (L2.dropK kvs k) (dropKD ds k)
  | _, _, .nil => .nil
  | _, _, .cons (k := k') q t => by
    unfold L2.dropK dropKD
    rw [List.filter_cons, List.filter_cons]
    by_cases h : k' ≠ k
    · rw [if_pos (decide_eq_true h), if_pos (decide_eq_true h)]
      exact .cons q (RepK.dropK t)
    · rw [if_neg (by simpa using h), if_neg (by simpa using h)]
      exact RepK.dropK t
theorem RepK.length : ∀ {kvs : List (Key × V)} {ds : List (Key × D)}, RepK K F kvs ds → kvs.length = ds.length
  | _, _, .nil => rfl
  | _, _, .cons _ t => congrArg (· + 1) (RepK.length t)
end
def keyV : Key → D
  | .inl i => .int i
  | .inr x => .str x
theorem keyV_rep {K : PySem.W.Frag} {F : Hp} (k : Key) : Rep K F (kV k) (keyV k) := by
  cases k with
  | inl i => exact .int
  | inr x => exact .str
theorem RepK.keys {K : PySem.W.Frag} {F : Hp} : ∀ {kvs : List (Key × V)} {ds : List (Key × D)}, RepK K F kvs ds → Reps K F (kvs.map fun kv => kV kv.1) (ds.map fun kv => keyV kv.1)
  | _, _, .nil => .nil
  | _, _, .cons (k := k) _ t => .cons (keyV_rep k) (RepK.keys t)

def in2 (neg : Bool) (x y : D) (μ : Mu) (Q : QE) : Prop :=
  (∃ xs, (SeqAt μ y xs ∨ y = .tup xs) ∧ x.fl = true ∧ xs.all D.fl = true ∧ Q (.bl (neg ^^ inF x xs)) μ) ∨
  (∃ i c j, x = .str ⟨#[i]⟩ ∧ y = .str j ∧ c = decide (i ∈ j.cps.toList) ∧ Q (.bl (neg ^^ c)) μ) ∨
  (∃ kvs k, DctAt μ y kvs ∧ keyD x = some k ∧ Q (.bl (neg ^^ (valD kvs k).isSome)) μ) ∨
  (∃ i j, x = .str i ∧ y = .str j ∧ Q (.bl (neg ^^ !(Builtin.Str.occurrences j i 0 j.length 1).isEmpty)) μ)
theorem oin (hu : X.A.units + 1 < cLine) : OpR X (compareOp .In) (lowO2 X.K (in2 false)) := by
  rintro pins s σ H x y v u Q I rx ry ⟨F, μ, d, e, Q0, w, r1, r2, q, k⟩
  rcases q with ⟨xs, hs, h1, h2, q⟩ | ⟨i, c, j, rfl, rfl, rfl, q⟩ | ⟨kvs, kk, h1, h2, q⟩ | ⟨i, j, rfl, rfl, q⟩
  · rw [Bool.false_xor] at q
    rcases hs with hs | rfl
    · obtain ⟨a, vs, rfl, ha, rs⟩ := seq_at w r2 hs
      refine op_in_seq pins s σ H _ _ v u Q I rx ry ⟨a, vs, rfl, .inl ha, r1.fl h1, rs.fl h2, ?_⟩
      rw [rs.inF r1 h1 h2]
      exact k _ _ _ _ _ q .refl w .bl
    · obtain ⟨a, vs, rfl, ha, rs⟩ := tup_at w r2
      refine op_in_seq pins s σ H _ _ v u Q I rx ry ⟨a, vs, rfl, .inr ha, r1.fl h1, rs.fl h2, ?_⟩
      rw [rs.inF r1 h1 h2]
      exact k _ _ _ _ _ q .refl w .bl
  · rw [Bool.false_xor] at q
    cases r1; cases r2
    exact op_in_sign pins s σ H _ _ v u Q I rx ry ⟨i, j, rfl, rfl, k _ _ _ _ _ q .refl w .bl⟩
  · rw [Bool.false_xor] at q
    obtain ⟨a, vs, rfl, ha, rs⟩ := dct_at w r2 h1
    cases (show u = Value.ref a from ry)
    have e1 := keyD_rep r1 h2
    subst e1
    refine d_in hu I (DGet.k ha) rx fun s' I' => ⟨.bl _, H, I', rfl, ?_⟩
    rw [rs.isSome]
    exact k _ _ _ _ _ q .refl w .bl
  · rw [Bool.false_xor] at q
    cases r1; cases r2
    exact op_in_str pins s σ H _ _ v u Q I rx ry ⟨i, j, rfl, rfl, k _ _ _ _ _ q .refl w .bl⟩
theorem onotin (hu : X.A.units + 1 < cLine) : OpR X (compareOp .NotIn) (lowO2 X.K (in2 true)) := by
  rintro pins s σ H x y v u Q I rx ry ⟨F, μ, d, e, Q0, w, r1, r2, q, k⟩
  rcases q with ⟨xs, hs, h1, h2, q⟩ | ⟨i, c, j, rfl, rfl, rfl, q⟩ | ⟨kvs, kk, h1, h2, q⟩ | ⟨i, j, rfl, rfl, q⟩
  · rw [Bool.true_xor] at q
    rcases hs with hs | rfl
    · obtain ⟨a, vs, rfl, ha, rs⟩ := seq_at w r2 hs
      refine op_notIn_seq pins s σ H _ _ v u Q I rx ry ⟨a, vs, rfl, .inl ha, r1.fl h1, rs.fl h2, ?_⟩
      rw [rs.inF r1 h1 h2]
      exact k _ _ _ _ _ q .refl w .bl
    · obtain ⟨a, vs, rfl, ha, rs⟩ := tup_at w r2
      refine op_notIn_seq pins s σ H _ _ v u Q I rx ry ⟨a, vs, rfl, .inr ha, r1.fl h1, rs.fl h2, ?_⟩
      rw [rs.inF r1 h1 h2]
      exact k _ _ _ _ _ q .refl w .bl
  · rw [Bool.true_xor] at q
    cases r1; cases r2
    exact op_notIn_sign pins s σ H _ _ v u Q I rx ry ⟨i, j, rfl, rfl, k _ _ _ _ _ q .refl w .bl⟩
  · rw [Bool.true_xor] at q
    obtain ⟨a, vs, rfl, ha, rs⟩ := dct_at w r2 h1
    cases (show u = Value.ref a from ry)
    have e1 := keyD_rep r1 h2
    subst e1
    refine d_notIn hu I (DGet.k ha) rx fun s' I' => ⟨.bl _, H, I', rfl, ?_⟩
    rw [rs.isSome]
    exact k _ _ _ _ _ q .refl w .bl
  · rw [Bool.true_xor] at q
    cases r1; cases r2
    exact op_notin_str pins s σ H _ _ v u Q I rx ry ⟨i, j, rfl, rfl, k _ _ _ _ _ q .refl w .bl⟩

/-! ### o[i] -/
def ix2 (x y : D) (μ : Mu) (Q : QE) : Prop :=
  (∃ xs i d, (SeqAt μ x xs ∨ x = .tup xs) ∧ y = .int i ∧ atI xs i = some d ∧ Q d μ) ∨
  (∃ z i c, x = .str z ∧ y = .int i ∧ z.length ≤ sizeLine ∧ atI z.cps.toList i = some c ∧ Q (.str ⟨#[c]⟩) μ) ∨
  (∃ kvs k d, DctAt μ x kvs ∧ keyD y = some k ∧ valD kvs k = some d ∧ Q d μ)
theorem ix_dict (hu : X.A.units + 1 < cLine) : IxR X (fun x y H Q => ∃ a v, x = .ref a ∧ DGet H a y (some v) ∧ Q v H) := by
  rintro value slice pins s σ H x y v u Q I rx ry ⟨a, d, rfl, g, q⟩ hs
  cases (show v = Value.ref a from rx)
  have hT := dict_typeIs I g
  unfold subscriptTail
  refine wpAny_bind ?_
  rw [getitemInPython_of_ne hT.not_modules]
  refine wpAny_bind (wpAny_specialOf hT PySem.F.slot_dict_getitem.lookup ?_)
  have h2 : wpAny (model X.prog X.w) X.A (getItem (.ref a) u) (EP X pins σ Q) X.xe s := d_getItem hu I g ry fun w' s3 I3 rw' => ⟨d, H, I3, rw', q⟩
  have fin : wpAny (model X.prog X.w) X.A (subscripted slice false (.ref a) u) (fun r s3 => wpAny (model X.prog X.w) X.A (letTemporaryGo value (.ref a) r >>= fun _ => pure r) (EP X pins σ Q) X.xe s3) X.xe s := by
    rw [hs]
    exact wpAny_operating (wpAny_mono h2 (fun r s3 h3 => wpAny_bind (wpAny_letTemporaryGo (wpAny_pure h3))) fun _ _ x => x)
  first
    | exact wpAny_pure (wpAny_bind fin)
    | exact wpAny_bind (wpAny_pure (wpAny_bind fin))
    | exact wpAny_bind fin
theorem oix (hu : X.A.units + 1 < cLine) : IxR X (lowO2 X.K ix2) := by
  rintro value slice pins s σ H x y v u Q I rx ry ⟨F, μ, d, e, Q0, w, r1, r2, q, k⟩ hs
  rcases q with ⟨xs, i, z, hx, rfl, ha, q⟩ | ⟨z, i, c, rfl, rfl, hz, ha, q⟩ | ⟨kvs, kk, z, h1, h2, h3, q⟩
  · cases r2
    rcases hx with hx | rfl
    · obtain ⟨a, vs, rfl, hl, rs⟩ := seq_at w r1 hx
      obtain ⟨zv, hzv, rz⟩ := atI_rep rs ha
      exact ix_list value slice pins s σ H _ _ v u Q I rx ry ⟨a, vs, i, zv, rfl, rfl, hl, hzv, k _ _ _ _ _ q .refl w rz⟩ hs
    · obtain ⟨a, vs, rfl, hl, rs⟩ := tup_at w r1
      obtain ⟨zv, hzv, rz⟩ := atI_rep rs ha
      exact ix_tup value slice pins s σ H _ _ v u Q I rx ry ⟨a, vs, i, zv, rfl, rfl, hl, hzv, k _ _ _ _ _ q .refl w rz⟩ hs
  · cases r1; cases r2
    exact ix_str value slice pins s σ H _ _ v u Q I rx ry ⟨z, i, c, rfl, rfl, hz, ha, k _ _ _ _ _ q .refl w .str⟩ hs
  · obtain ⟨a, vs, rfl, hl, rs⟩ := dct_at w r1 h1
    have e1 := keyD_rep r2 h2
    subst e1
    obtain ⟨zv, hzv, rz⟩ := (rs.val kk).1 z h3
    exact ix_dict hu value slice pins s σ H _ _ v u Q I rx ry ⟨a, zv, rfl, by rw [← hzv]; exact DGet.k hl, k _ _ _ _ _ q .refl w rz⟩ hs
end
end J

/-! ### list(reversed(list)), at the library's level -/
namespace J
open PySem PySem.Spec PyProof.Rows RT
section
variable {prog : Program} {w : World} {A : Around} {E : Value → Shared → Prop} {s : Shared}
theorem ext_rev {R : Result → Shared → Prop} {it l : Addr} {items : Array Value} (hh : A.handled = none) (hit : s.heap.IsRevIter it l ((items.size : Int) - 1)) (hl : s.heap.IsList l items) (hne : l ≠ it) (hn : items.size ≤ sizeLine) (S : Addr) (res : Value) (c₀ : Nat)
    (hS : s.heap.get? S = some { cls := .type "list", data := .seq #[] c₀ }) (hSl : S ≠ l) (hSi : S ≠ it)
    (hR : ∀ h' tk acc' c', (∀ b o, b ≠ S → b ≠ it → s.heap.get? b = some o → h'.get? b = some o) → h'.get? S = some { cls := .type "list", dict := none, data := .seq acc' c', slots := #[] } →
      ItemsOf (fun i v => items[items.size - 1 - i]? = some v) acc' items.size → R (.ok (.ret res)) { s with heap := h', toks := tk }) :
    wpAny (model prog w) A.in1 (Builtin.List.listExtendWith (.ref S) (.ref it) res)
      (fun fin s' => match fin with | .done f => R (.ok f) s' | .again c' => c'.quiet = true ∧ codeAny (model prog w) A c' R s') (fun e s' => R (.error e) s') s := by
  have W := (Walks.listRev (prog := prog) (w := w) (A := A.in1) hh it l hne items).toS
  have hSf : S ∉ [it, l] := by simp only [List.mem_cons, List.not_mem_nil, or_false, not_or]; exact ⟨hSi, hSl⟩
  have hT : s.TypeIs (.ref it) "list_reverseiterator" := Heap.IsRevIter.typeIs hit
  have h1 : Builtin.List.listSameRef (.ref S) (.ref it) = false := by simp [Builtin.List.listSameRef, hSi]
  unfold Builtin.List.listExtendWith
  refine wpAny_bind (wpAny_typeOf hT ?_)
  rw [if_neg (by rw [h1]; decide)]
  refine wpAny_bind (wpAny_pyIter_revIter hit ?_)
  refine wpAny_bind (wpAny_holding ?_)
  unfold Builtin.List.listLengthHint
  refine wpAny_bind (wpAny_specialOf hT nolen_lri ?_)
  show wpAny _ A.in1 (specialOf (Value.ref it) (Str.ofString "__length_hint__") >>= _) _ _ _
  refine wpAny_bind (wpAny_specialOf hT hint_lri ?_)
  generalize hid : ("list_reverseiterator.__length_hint__" : String) = id0
  wp_delta
  rw [show splitId id0 = some ("list_reverseiterator", "__length_hint__") from by subst hid; decide +kernel]
  subst hid
  refine wpAny_bind (wpAny_isInstance (b := true) hT (by rw [isSubtype_type]; kernel_rfl) ?_)
  refine wpAny_pure ?_
  rw [if_neg (by decide)]
  have e0 : ((items.size : Nat) : Int) - 1 - ((0 : Nat) : Int) = (items.size : Int) - 1 := by omega
  refine wpAny_pure ⟨plainId_quiet F.plain_extend_loop _, codeAny_extend_loopS W hn S hSf res items.size 0 _ _ c₀ rfl (Nat.zero_le _) ⟨Nat.zero_le _, by rw [e0]; exact hit, hl⟩ hS (ItemsOf.nil _) fun s' acc' c' hm hS' hacc => ?_⟩
  rw [Moved.eq_with hm]
  refine hR s'.heap s'.toks acc' c' (fun b o hb hb2 e => hm.heap b o (fun hmem => ?_) e) hS' hacc
  rcases List.mem_cons.mp hmem with e' | hmem
  · exact hb e'
  · exact hb2 (List.mem_singleton.mp hmem)
theorem init_rev {R : Result → Shared → Prop} {it l : Addr} {items : Array Value} (hh : A.handled = none) (hit : s.heap.IsRevIter it l ((items.size : Int) - 1)) (hl : s.heap.IsList l items) (hne : l ≠ it) (hn : items.size ≤ sizeLine) (S : Addr)
    (hS : s.heap.get? S = some { cls := .type "list", data := .seq #[] }) (hSl : S ≠ l) (hSi : S ≠ it)
    (hR : ∀ h' tk acc' c', (∀ b o, b ≠ S → b ≠ it → s.heap.get? b = some o → h'.get? b = some o) → h'.get? S = some { cls := .type "list", dict := none, data := .seq acc' c', slots := #[] } →
      ItemsOf (fun i v => items[items.size - 1 - i]? = some v) acc' items.size → R (.ok (.ret .none)) { s with heap := h', toks := tk }) :
    wpAny (model prog w) A.in1 (Builtin.«list.__init__» ⟨[.ref S, .ref it], []⟩)
      (fun fin s' => match fin with | .done f => R (.ok f) s' | .again c' => c'.quiet = true ∧ codeAny (model prog w) A c' R s') (fun e s' => R (.error e) s') s := by
  show wpAny _ _ (do let old ← Builtin.List.listItems (.ref S); Builtin.List.listUpdate (.ref S) (fun _ => #[]); letGo old.toList.reverse; Builtin.List.listExtendWith (.ref S) (.ref it) .none) _ _ s
  refine wpAny_bind ?_
  unfold Builtin.List.listItems
  refine wpAny_bind (wpAny_seqItems hS rfl (wpAny_pure ?_))
  show wpAny _ _ (updateSeq S (fun _ => #[]) >>= fun _ => letGo (#[] : Array Value).toList.reverse >>= fun _ => Builtin.List.listExtendWith (.ref S) (.ref it) .none) _ _ s
  refine wpAny_bind (wpAny_updateSeq hS rfl ?_)
  have hS₂ := Heap.get?_update_self (Obj.mapSeq (fun _ => (#[] : Array Value))) hS rfl
  have oth : ∀ b o, b ≠ S → s.heap.get? b = some o → (s.heap.update S (Obj.mapSeq (fun _ => (#[] : Array Value)))).get? b = some o :=
    fun b o hb e => (Heap.get?_update_other _ _ (Ne.symm hb)).trans e
  refine wpAny_bind (wpAny_letGo ?_)
  obtain ⟨ol, hol, c1, n1, d1⟩ := hl
  refine ext_rev (items := items) hh (hit.at fun o e => oth it o (Ne.symm hSi) e) ⟨ol, oth l ol (Ne.symm hSl) hol, c1, n1, d1⟩ hne hn S .none _ hS₂ hSl hSi fun h' tk acc' c' hk hS' hacc => ?_
  exact hR h' tk acc' c' (fun b o hb hb2 e => hk b o hb hb2 (oth b o hb e)) hS' hacc
theorem call_list_rev {it l : Addr} {items : Array Value} {Q : Value → Shared → Prop} (hh : A.handled = none) (hit : s.heap.IsRevIter it l ((items.size : Int) - 1)) (hl : s.heap.IsList l items) (hne : l ≠ it) (hn : items.size ≤ sizeLine)
    (hQ : ∀ h' tk acc' c', (∀ b o, b ≠ it → s.heap.get? b = some o → h'.get? b = some o) →
      h'.get? s.heap.objs.size = some { cls := .type "list", dict := none, data := .seq acc' c', slots := #[] } → ItemsOf (fun i v => items[items.size - 1 - i]? = some v) acc' items.size → Q (.ref s.heap.objs.size) { s with heap := h', toks := tk }) :
    wpAny (model prog w) A (call (.type "list") [.ref it]) Q E s := by
  refine callType_codes (Q₁ := fun obj s₁ => obj = .ref s.heap.objs.size ∧ s₁ = { s with heap := s.heap.push { cls := .type "list", data := .seq #[] } }) F.called_list (F.typeCall_list_1 _) F.entry_list_init
    (code_list_new _ ⟨rfl, rfl⟩) fun obj s₁ h₁ => ?_
  obtain ⟨rfl, rfl⟩ := h₁
  have hS : (s.heap.push { cls := .type "list", data := .seq #[] }).get? s.heap.objs.size = some { cls := .type "list", data := .seq #[] } := Heap.get?_push_size _ rfl
  obtain ⟨oi, hoi, _⟩ := id hit
  obtain ⟨ol, hol, _⟩ := id hl
  refine ⟨⟨_, hS, rfl⟩, F.args_list_init_2 _ _, init_rev (A := A.in1) hh (hit.at fun o e => Heap.get?_push_of_some _ e) (hl.push _) hne hn _ hS (Nat.ne_of_gt (Heap.lt_size hol)) (Nat.ne_of_gt (Heap.lt_size hoi)) fun h' tk acc' c' hk hS' hacc => ?_⟩
  exact ⟨rfl, hQ h' tk acc' c' (fun b o hb e => hk b o (Nat.ne_of_lt (Heap.lt_size e)) hb (Heap.get?_push_of_some _ e)) hS' hacc⟩
end
end J

namespace J
open PySem PySem.Spec PyProof.Rows L2
section
variable {X : Cx} {Z : Zw}
def tLstRev (K : PySem.W.Frag) (te : TE) : TE := fun σ H Q => te σ H fun v H1 => ∃ (a : Addr) (xs : List V), v = .ref a ∧ SqL K H1 a xs ∧ ∀ q, H1 q = none → Q (.ref q) (upd H1 q (.lst xs.reverse))
theorem pe_lstRev {e : Expr} {te : TE} {p p2 pos pos2 : Pos} (hc : X.calm = true) (hg : Gl X "list") (hm : X.mg "list" = none) (hg2 : Gl X "reversed") (hm2 : X.mg "reversed" = none) (he : PE X e te)
    (hs : starEach [e] X.env = (false, eval e X.env) :: starEach [] X.env := by rfl)
    (hs2 : starEach [.Call (.Name "reversed" p2) [e] [] pos2] X.env = (false, eval (.Call (.Name "reversed" p2) [e] [] pos2) X.env) :: starEach [] X.env := by rfl) :
    PE X (.Call (.Name "list" p) [.Call (.Name "reversed" p2) [e] [] pos2] [] pos) (tLstRev X.K te) := by
  refine ⟨fun pins s σ H Q I h => ?_⟩
  refine Call_ (ld_blt I hg hm boot_list (PyProof.Rows.callWith_type1 (args_cons (Call_ (ld_blt I hg2 hm2 PyProof.Rows.boot_reversed (PyProof.Rows.callWith_type1 (args_cons (thn (he.run pins s σ H _ I h) fun u s1 ⟨v, H1, I1, r1, q1⟩ => args_nil ?_) hs) hs rfl))) hs2) hs2 rfl))
  obtain ⟨a, xs, ev, hq, q⟩ := q1
  subst ev
  obtain rfl : u = Value.ref a := r1
  obtain ⟨its, rv, p', hz⟩ := I1.list hq
  refine call_reversed_list p'.isList (args_nil ?_)
  have k0 : ∀ b o, s1.heap.get? b = some o → (s1.heap.push (revObj a ((its.toArray.size : Int) - 1))).get? b = some o := fun b o e => Heap.get?_push_of_some _ e
  have I2 : Inv X pins σ H1 { s1 with heap := s1.heap.push (revObj a ((its.toArray.size : Int) - 1)) } := I1.kept (t' := s1.toks) k0
  have hl := p'.isList
  obtain ⟨ol, hol, _⟩ := id hl
  have hne : a ≠ s1.heap.objs.size := Nat.ne_of_lt (Heap.lt_size hol)
  have hn : its.toArray.size ≤ sizeLine := by rw [List.size_toArray, ← rv.length]; exact hz
  refine call_list_rev (s := { s1 with heap := s1.heap.push (revObj a ((its.toArray.size : Int) - 1)) }) (I1.ok.hd hc) ⟨_, Heap.get?_push_size _ rfl, rfl, rfl⟩ (hl.push _) hne hn fun h' tk acc c' hk hS hi => ?_
  have hf2 : H1 (s1.heap.push (revObj a ((its.toArray.size : Int) - 1))).objs.size = none := I2.hok.fresh (Nat.le_refl _)
  have hsz : s1.heap.objs.size ≠ (s1.heap.push (revObj a ((its.toArray.size : Int) - 1))).objs.size := Nat.ne_of_lt (Heap.lt_size (Heap.get?_push_size _ rfl))
  have hfp : ∀ b ∈ [s1.heap.objs.size], FpOk X pins H1 b := fun b hb => by
    have eb : b = s1.heap.objs.size := by simpa using hb
    subst eb
    exact I1.fpOk (H' := H1) (b := s1.heap.objs.size) (Nat.le_refl _) (I1.hok.fresh (Nat.le_refl _))
  refine ⟨.ref _, upd H1 (s1.heap.push (revObj a ((its.toArray.size : Int) - 1))).objs.size (.lst xs.reverse), I2.turnedNew (t' := tk) (h' := h') (ch := [s1.heap.objs.size]) (ob := .lst xs.reverse) (fun b o hb e => hk b o (fun z => hb (by simp [z])) e) hfp (Nat.le_refl _) ?_, rfl, q _ hf2⟩
  exact ⟨by rw [List.length_reverse]; exact hz, acc.toList, c', RT.vals_rev rv hi, by rw [Array.toArray_toList]; exact hS⟩
end
end J

namespace J
open PySem PySem.Spec PyProof.Rows L2
section
variable {X : Cx} {Z : Zw}
theorem jlistRev {e : Expr} {te : TE2} {p p2 pos pos2 : Pos} (hc : X.calm = true) (hg : Gl X "list") (hm : X.mg "list" = none) (hg2 : Gl X "reversed") (hm2 : X.mg "reversed" = none) (he : E2 X Z e te)
    (hs : starEach [e] X.env = (false, eval e X.env) :: starEach [] X.env := by rfl)
    (hs2 : starEach [.Call (.Name "reversed" p2) [e] [] pos2] X.env = (false, eval (.Call (.Name "reversed" p2) [e] [] pos2) X.env) :: starEach [] X.env := by rfl) :
    E2 X Z (.Call (.Name "list" p) [.Call (.Name "reversed" p2) [e] [] pos2] [] pos) (jUn (fun x μ Q => ∃ xs, SeqAt μ x xs ∧ NewL xs.reverse μ Q) te) := by
  refine pe_imp (pe_lstRev hc hg hm hg2 hm2 he hs hs2) ?_
  rintro σ H Q ⟨F, δ, μ, Q0, m, q, k⟩
  refine ⟨F, δ, μ, _, m, q, ?_⟩
  rintro x μ1 F1 H1 v ⟨xs, hx, n⟩ g1 w1 r1
  obtain ⟨a, vs, rfl, ha, rs⟩ := seq_at w1 r1 hx
  exact ⟨a, vs, rfl, ha, fun q hq => newL_ok w1 hq rs.reverse n (tr k g1)⟩

/-! ### calls of built-ins -/
theorem jcallF {x : Str} {id : String} {r : OA} {e : Expr} {es : List Expr} {t : TA2} {p pos : Pos} (hc : CallR X (.builtin id) (lowOA X.K r)) (hg : Gl X x) (hm : X.mg x = none) (hv : bootBuiltins x = some (.builtin id)) (ha : A2 X Z (e :: es) t)
    (hn : x ≠ "__name__" := by decide) (hdb : (x == ("__debug__" : Str)) = false := by decide) (he : starEach (e :: es) X.env = (false, eval e X.env) :: starEach es X.env := by rfl) (hpl : (backTo pos (starEach es X.env)).any (·.1) = false := by rfl) :
    E2 X Z (.Call (.Name x p) (e :: es) [] pos) (jCB r t) := pe_imp (pe_callB hc hg hm hv ha hn hdb he hpl) fun _ _ _ q => low_cb q
theorem jcallT {x : Str} {T : String} {r : OA} {e : Expr} {es : List Expr} {t : TA2} {p pos : Pos} (hc : CallR X (.type T) (lowOA X.K r)) (hg : Gl X x) (hm : X.mg x = none) (hv : bootBuiltins x = some (.type T)) (ha : A2 X Z (e :: es) t)
    (hn : x ≠ "__name__" := by decide) (hdb : (x == ("__debug__" : Str)) = false := by decide) (he : starEach (e :: es) X.env = (false, eval e X.env) :: starEach es X.env := by rfl) (hpl : (backTo pos (starEach es X.env)).any (·.1) = false := by rfl) :
    E2 X Z (.Call (.Name x p) (e :: es) [] pos) (jCB r t) := pe_imp (pe_callTy hc hg hm hv ha hn hdb he hpl) fun _ _ _ q => low_cb q

def len1 : OA
  | [.str z], μ, Q => z.length ≤ sizeLine ∧ Q (.int z.length) μ
  | [.tup xs], μ, Q => Q (.int xs.length) μ
  | [.lst xs], μ, Q => Q (.int xs.length) μ
  | [.rol xs], μ, Q => Q (.int xs.length) μ
  | [.dct xs], μ, Q => Q (.int xs.length) μ
  | [.ref a], μ, Q => (∃ xs, μ a = some (.lst xs) ∧ Q (.int xs.length) μ) ∨ ∃ xs, μ a = some (.dct xs) ∧ Q (.int xs.length) μ
  | _, _, _ => False
theorem Reps.one {K : PySem.W.Frag} {F : Hp} {vs : List V} {d : D} (r : Reps K F vs [d]) : ∃ v, vs = [v] ∧ Rep K F v d := by
  cases r with
  | cons r t => cases t; exact ⟨_, rfl, r⟩
theorem Reps.two {K : PySem.W.Frag} {F : Hp} {vs : List V} {d e : D} (r : Reps K F vs [d, e]) : ∃ v u, vs = [v, u] ∧ Rep K F v d ∧ Rep K F u e := by
  cases r with
  | cons r t =>
    cases t with
    | cons r2 t => cases t; exact ⟨_, _, rfl, r, r2⟩
theorem len_seq {pins : List (Addr × Obj)} {s : Shared} {σ : Sv} {H : Hp} {a : Addr} {vs : List V} {us : List Value} {Q : VK} (I : Inv X pins σ H s) (r : Vals [.ref a] us) (h : SqL X.K H a vs ∨ SqT X.K H a vs) (q : Q (.int vs.length) H) :
    wpAny (model X.prog X.w) X.A (call (.builtin "len") us) (EP X pins σ Q) X.xe s := call_len_seq pins s σ H _ us Q I r ⟨a, vs, rfl, h, q⟩
theorem call_lenD2 {pins : List (Addr × Obj)} {s : Shared} {σ : Sv} {H : Hp} {a : Addr} {kvs : List (Key × V)} {us : List Value} {Q : VK} (I : Inv X pins σ H s) (r : Vals [.ref a] us) (h : H a = some (.dK kvs)) (q : Q (.int kvs.length) H) :
    wpAny (model X.prog X.w) X.A (call (.builtin "len") us) (EP X pins σ Q) X.xe s := by
  rw [Vals.ref1 r]
  exact d_len I (.inl h) fun t s' I' => ⟨.int _, H, I', ⟨t, rfl⟩, q⟩
theorem clen : CallR X (.builtin "len") (lowOA X.K len1) := by
  rintro pins s σ H xs us Q I r ⟨F, μ, ds, Q0, w, rs, q, k⟩
  unfold len1 at q
  split at q <;> first | exact False.elim q | skip
  · obtain ⟨v, rfl, rv⟩ := rs.one
    cases rv
    exact call_len_str pins s σ H _ us Q I r ⟨_, rfl, q.1, k _ _ _ _ _ q.2 .refl w .int⟩
  · obtain ⟨v, rfl, rv⟩ := rs.one
    obtain ⟨a, vs, rfl, ha, r2⟩ := tup_at w rv
    exact len_seq I r (.inr ha) (by rw [r2.length]; exact k _ _ _ _ _ q .refl w .int)
  · obtain ⟨v, rfl, rv⟩ := rs.one
    obtain ⟨a, vs, rfl, ha, r2⟩ := seq_at w rv SeqAt.f
    exact len_seq I r (.inl ha) (by rw [r2.length]; exact k _ _ _ _ _ q .refl w .int)
  · obtain ⟨v, rfl, rv⟩ := rs.one
    obtain ⟨a, vs, rfl, ha, r2⟩ := seq_at w rv SeqAt.r
    exact len_seq I r (.inl ha) (by rw [r2.length]; exact k _ _ _ _ _ q .refl w .int)
  · obtain ⟨v, rfl, rv⟩ := rs.one
    obtain ⟨a, vs, rfl, ha, r2⟩ := dct_at w rv DctAt.f
    exact call_lenD2 I r ha (by rw [r2.length]; exact k _ _ _ _ _ q .refl w .int)
  · obtain ⟨v, rfl, rv⟩ := rs.one
    rcases q with ⟨xs, h, q⟩ | ⟨xs, h, q⟩
    · obtain ⟨a, vs, rfl, ha, r2⟩ := seq_at w rv (SeqAt.m h)
      exact len_seq I r (.inl ha) (by rw [r2.length]; exact k _ _ _ _ _ q .refl w .int)
    · obtain ⟨a, vs, rfl, ha, r2⟩ := dct_at w rv (DctAt.m h)
      exact call_lenD2 I r ha (by rw [r2.length]; exact k _ _ _ _ _ q .refl w .int)
def int1 : OA
  | [.int i], μ, Q => Q (.int i) μ
  | [.bl b], μ, Q => Q (.int (if b then 1 else 0)) μ
  | _, _, _ => False
theorem cint : CallR X (.type "int") (lowOA X.K int1) := by
  rintro pins s σ H xs us Q I r ⟨F, μ, ds, Q0, w, rs, q, k⟩
  unfold int1 at q
  split at q <;> first | exact False.elim q | skip
  · obtain ⟨v, rfl, rv⟩ := rs.one
    cases rv
    exact call_int1 pins s σ H _ us Q I r (.inl ⟨_, rfl, k _ _ _ _ _ q .refl w .int⟩)
  · obtain ⟨v, rfl, rv⟩ := rs.one
    cases rv
    exact call_int1 pins s σ H _ us Q I r (.inr ⟨_, rfl, k _ _ _ _ _ q .refl w .int⟩)
def list1 : OA
  | [.tup xs], μ, Q => NewL xs μ Q
  | [.lst xs], μ, Q => NewL xs μ Q
  | [.rol xs], μ, Q => NewL xs μ Q
  | [.dct xs], μ, Q => NewL (xs.map fun kv => keyV kv.1) μ Q
  | [.ref a], μ, Q => (∃ xs, μ a = some (.lst xs) ∧ NewL xs μ Q) ∨ ∃ xs, μ a = some (.dct xs) ∧ NewL (xs.map fun kv => keyV kv.1) μ Q
  | _, _, _ => False
theorem clist (hc : X.calm = true) : CallR X (.type "list") (lowOA X.K list1) := by
  rintro pins s σ H xs us Q I r ⟨F, μ, ds, Q0, w, rs, q, k⟩
  have seq : ∀ {d : D} {xs : List D} {v : V}, Rep X.K F v d → SeqAt μ d xs → Vals [v] us → NewL xs μ Q0 → wpAny (model X.prog X.w) X.A (call (.type "list") us) (EP X pins σ Q) X.xe s := by
    intro d xs v rv h r n
    obtain ⟨a, vs, rfl, ha, r2⟩ := seq_at w rv h
    exact call_list_of pins s σ H _ us Q I r ⟨a, vs, rfl, .inl ha, fun l hl => newL_ok w hl r2 n k⟩
  have dic : ∀ {d : D} {xs : List (Key × D)} {v : V}, Rep X.K F v d → DctAt μ d xs → Vals [v] us → NewL (xs.map fun kv => keyV kv.1) μ Q0 → wpAny (model X.prog X.w) X.A (call (.type "list") us) (EP X pins σ Q) X.xe s := by
    intro d xs v rv h r n
    obtain ⟨a, vs, rfl, ha, r2⟩ := dct_at w rv h
    exact call_listD hc pins s σ H _ us Q I r ⟨a, vs, rfl, .inl ha, fun l hl => newL_ok w hl r2.keys n k⟩
  unfold list1 at q
  split at q <;> first | exact False.elim q | skip
  · obtain ⟨v, rfl, rv⟩ := rs.one
    obtain ⟨a, vs, rfl, ha, r2⟩ := tup_at w rv
    exact call_list_of pins s σ H _ us Q I r ⟨a, vs, rfl, .inr ha, fun l hl => newL_ok w hl r2 q k⟩
  · obtain ⟨v, rfl, rv⟩ := rs.one
    exact seq rv SeqAt.f r q
  · obtain ⟨v, rfl, rv⟩ := rs.one
    exact seq rv SeqAt.r r q
  · obtain ⟨v, rfl, rv⟩ := rs.one
    exact dic rv DctAt.f r q
  · obtain ⟨v, rfl, rv⟩ := rs.one
    rcases q with ⟨xs, h, q⟩ | ⟨xs, h, q⟩
    · exact seq rv (SeqAt.m h) r q
    · exact dic rv (DctAt.m h) r q
def tuple1 : OA
  | [.tup xs], μ, Q => Q (.tup xs) μ
  | [.lst xs], μ, Q => Q (.tup xs) μ
  | [.rol xs], μ, Q => Q (.tup xs) μ
  | [.ref a], μ, Q => ∃ xs, μ a = some (.lst xs) ∧ Q (.tup xs) μ
  | _, _, _ => False
theorem ctuple : CallR X (.type "tuple") (lowOA X.K tuple1) := by
  rintro pins s σ H xs us Q I r ⟨F, μ, ds, Q0, w, rs, q, k⟩
  have seq : ∀ {d : D} {xs : List D} {v : V}, Rep X.K F v d → SeqAt μ d xs → Vals [v] us → Q0 (.tup xs) μ → wpAny (model X.prog X.w) X.A (call (.type "tuple") us) (EP X pins σ Q) X.xe s := by
    intro d xs v rv h r n
    obtain ⟨a, vs, rfl, ha, r2⟩ := seq_at w rv h
    exact call_tuple_of pins s σ H _ us Q I r ⟨a, vs, rfl, .inl ⟨ha, fun l hl => newT_ok w hl r2 n k⟩⟩
  unfold tuple1 at q
  split at q <;> first | exact False.elim q | skip
  · obtain ⟨v, rfl, rv⟩ := rs.one
    obtain ⟨a, vs, rfl, ha, r2⟩ := tup_at w rv
    exact call_tuple_of pins s σ H _ us Q I r ⟨a, vs, rfl, .inr ⟨ha, k _ _ _ _ _ q .refl w rv⟩⟩
  · obtain ⟨v, rfl, rv⟩ := rs.one
    exact seq rv SeqAt.f r q
  · obtain ⟨v, rfl, rv⟩ := rs.one
    exact seq rv SeqAt.r r q
  · obtain ⟨v, rfl, rv⟩ := rs.one
    obtain ⟨xs, h, q⟩ := q
    exact seq rv (SeqAt.m h) r q
def abs1 : OA
  | [.int i], μ, Q => Q (.int (if i < 0 then -i else i)) μ
  | _, _, _ => False
theorem cabs : CallR X (.builtin "abs") (lowOA X.K abs1) := by
  rintro pins s σ H xs us Q I r ⟨F, μ, ds, Q0, w, rs, q, k⟩
  unfold abs1 at q
  split at q <;> first | exact False.elim q | skip
  obtain ⟨v, rfl, rv⟩ := rs.one
  cases rv
  exact call_abs pins s σ H _ us Q I r ⟨_, rfl, k _ _ _ _ _ q .refl w .int⟩
/-- items that are ints -/
def IntsOf (xs : List D) (ns : List Int) : Prop := xs = ns.map D.int
def max1 : OA
  | [.int i, .int j], μ, Q => Q (.int (if j > i then j else i)) μ
  | [x], μ, Q => ∃ ns : List Int, SeqAt μ x (ns.map D.int) ∧ 0 < ns.length ∧ ∀ m, m ∈ ns → (∀ y, y ∈ ns → y ≤ m) → Q (.int m) μ
  | _, _, _ => False
def min1 : OA
  | [.int i, .int j], μ, Q => Q (.int (if j < i then j else i)) μ
  | [x], μ, Q => ∃ ns : List Int, SeqAt μ x (ns.map D.int) ∧ 0 < ns.length ∧ ∀ m, m ∈ ns → (∀ y, y ∈ ns → m ≤ y) → Q (.int m) μ
  | _, _, _ => False
theorem cmax (hc : X.calm = true) : CallR X (.builtin "max") (lowOA X.K max1) := by
  rintro pins s σ H xs us Q I r ⟨F, μ, ds, Q0, w, rs, q, k⟩
  unfold max1 at q
  split at q <;> first | exact False.elim q | skip
  · obtain ⟨v, u, rfl, rv, ru⟩ := rs.two
    cases rv; cases ru
    exact call_max2 hc pins s σ H _ us Q I r ⟨_, _, rfl, k _ _ _ _ _ q .refl w .int⟩
  · obtain ⟨v, rfl, rv⟩ := rs.one
    obtain ⟨ns, h, hl, q⟩ := q
    obtain ⟨a, vs, rfl, ha, r2⟩ := seq_at w rv h
    have e := r2.ints
    subst e
    exact cr_max hc pins s σ H _ us Q I r ⟨a, ns, rfl, ha, hl, fun m h1 h2 => k _ _ _ _ _ (q m h1 h2) .refl w .int⟩
theorem cmin (hc : X.calm = true) : CallR X (.builtin "min") (lowOA X.K min1) := by
  rintro pins s σ H xs us Q I r ⟨F, μ, ds, Q0, w, rs, q, k⟩
  unfold min1 at q
  split at q <;> first | exact False.elim q | skip
  · obtain ⟨v, u, rfl, rv, ru⟩ := rs.two
    cases rv; cases ru
    exact call_min2 hc pins s σ H _ us Q I r ⟨_, _, rfl, k _ _ _ _ _ q .refl w .int⟩
  · obtain ⟨v, rfl, rv⟩ := rs.one
    obtain ⟨ns, h, hl, q⟩ := q
    obtain ⟨a, vs, rfl, ha, r2⟩ := seq_at w rv h
    have e := r2.ints
    subst e
    exact cr_min hc pins s σ H _ us Q I r ⟨a, ns, rfl, ha, hl, fun m h1 h2 => k _ _ _ _ _ (q m h1 h2) .refl w .int⟩
def sorted1 : OA
  | [x], μ, Q => (∃ ns : List Int, SeqAt μ x (ns.map D.int) ∧ ∀ ns' : List Int, ns'.Perm ns → ns'.Pairwise (· ≤ ·) → NewL (ns'.map D.int) μ Q) ∨
      ∃ ss : List Str, SeqAt μ x (ss.map D.str) ∧ ss.length < 64 ∧ ∀ ys : List Str, ys.Perm ss → sortedS ys = true → NewL (ys.map D.str) μ Q
  | _, _, _ => False
def str1 : OA
  | [.int i], μ, Q => i.natAbs.log2 < 1920 ∧ Q (.str (toString i)) μ
  | _, _, _ => False
theorem cstr : CallR X (.type "str") (lowOA X.K str1) := by
  rintro pins s σ H xs us Q I r ⟨F, μ, ds, Q0, w, rs, q, k⟩
  unfold str1 at q
  split at q <;> first | exact False.elim q | skip
  obtain ⟨v, rfl, rv⟩ := rs.one
  cases rv
  exact call_str_int pins s σ H _ us Q I r ⟨_, rfl, q.1, k _ _ _ _ _ q.2 .refl w .str⟩
/-- a value's type -/
inductive Ty where
  | non | bl | int | str | tup | lst | dct
  deriving DecidableEq
def Ty.nm : Ty → String
  | .non => "NoneType" | .bl => "bool" | .int => "int" | .str => "str" | .tup => "tuple" | .lst => "list" | .dct => "dict"
def tyD (μ : Mu) : D → Option Ty
  | .non => some .non
  | .bl _ => some .bl
  | .int _ => some .int
  | .str _ => some .str
  | .tup _ => some .tup
  | .lst _ => some .lst
  | .rol _ => some .lst
  | .dct _ => some .dct
  | .ref a => match μ a with
    | some (.lst _) => some .lst
    | some (.dct _) => some .dct
    | _ => none
  | _ => none
def isTy : Ty → Ty → Bool
  | .bl, .int => true
  | .non, .non => true | .bl, .bl => true | .int, .int => true | .str, .str => true | .tup, .tup => true | .lst, .lst => true | .dct, .dct => true
  | _, _ => false
theorem isTy_kit (a b : Ty) (h : b ≠ .non) : kitB a.nm b.nm = some (isTy a b) := by
  cases a <;> cases b <;> first | exact absurd rfl h | decide +kernel
def isi (T : Ty) : OA
  | [x, .ty n], μ, Q => n = T.nm ∧ ∃ t, tyD μ x = some t ∧ Q (.bl (isTy t T)) μ
  | _, _, _ => False
theorem tyX_of {K : PySem.W.Frag} {F H : Hp} {μ : Mu} {v : V} {d : D} {t : Ty} (w : Wd K F H μ) (r : Rep K F v d) (h : tyD μ d = some t) : TyX K H v (.type t.nm) := by
  have sq : ∀ {a : Addr} {vs : List V}, SqL K H a vs → TyX K H (.ref a) (.type "list") := by
    rintro a vs ((h | ⟨o, h⟩) | ⟨o, its, n, h, c, _⟩)
    · exact .base (.lst h)
    · exact .base (.frz h)
    · exact .kList h c
  have st : ∀ {a : Addr} {vs : List V}, SqT K H a vs → TyX K H (.ref a) (.type "tuple") := by
    rintro a vs ((h | ⟨o, h⟩) | ⟨o, its, n, h, c, _⟩)
    · exact .base (.tup h)
    · exact .fTuple h
    · exact .kTuple h c
  cases r with
  | non => cases h; exact .base .non
  | bl => cases h; exact .base (.bl _)
  | int => cases h; exact .base (.int _)
  | str => cases h; exact .base (.str _)
  | ty => cases h
  | ins _ _ => cases h
  | tup hq _ => cases h; exact st (sqt_mono w.sub hq)
  | lst hq _ => cases h; exact .base (.lst (w.sub _ _ hq))
  | rol hq _ => cases h; exact sq (w.sub.seq hq)
  | dct hq _ => cases h; exact .base (.dK (w.sub _ _ hq))
  | @ref a =>
    unfold tyD at h
    simp only at h
    split at h
    · next e =>
      cases h
      obtain ⟨vs, h1, _⟩ := mlst_at w e
      exact .base (.lst h1)
    · next e =>
      cases h
      obtain ⟨vs, h1, _⟩ := mdct_at w e
      exact .base (.dK h1)
    · cases h
theorem cisi (T : Ty) (hT : T ≠ .non) : CallR X (.builtin "isinstance") (lowOA X.K (isi T)) := by
  rintro pins s σ H xs us Q I r ⟨F, μ, ds, Q0, w, rs, q, k⟩
  unfold isi at q
  split at q <;> first | exact False.elim q | skip
  obtain ⟨v, u, rfl, rv, ru⟩ := rs.two
  cases ru
  obtain ⟨rfl, t, ht, q⟩ := q
  exact call_isi pins s σ H _ us Q I r ⟨v, .ty T.nm, .type t.nm, .type T.nm, isTy t T, rfl, .ty _, tyX_of w rv ht, kit_ty (isTy_kit t T hT), k _ _ _ _ _ q .refl w .bl⟩
def all1 : OA
  | [x], μ, Q => ∃ bs : List Bool, SeqAt μ x (bs.map D.bl) ∧ Q (.bl (bs.all id)) μ
  | _, _, _ => False
theorem call_ (hc : X.calm = true) : CallR X (.builtin "all") (lowOA X.K all1) := by
  rintro pins s σ H xs us Q I r ⟨F, μ, ds, Q0, w, rs, q, k⟩
  unfold all1 at q
  split at q <;> first | exact False.elim q | skip
  obtain ⟨v, rfl, rv⟩ := rs.one
  obtain ⟨bs, h, q⟩ := q
  obtain ⟨a, vs, rfl, ha, r2⟩ := seq_at w rv h
  have e := r2.bls
  subst e
  exact cr_all hc pins s σ H _ us Q I r ⟨a, bs, rfl, ha, k _ _ _ _ _ q .refl w .bl⟩
def sum1 : OA
  | [x], μ, Q => ∃ ns : List Int, SeqAt μ x (ns.map D.int) ∧ Q (.int ns.sum) μ
  | _, _, _ => False
theorem csum (hc : X.calm = true) : CallR X (.builtin "sum") (lowOA X.K sum1) := by
  rintro pins s σ H xs us Q I r ⟨F, μ, ds, Q0, w, rs, q, k⟩
  unfold sum1 at q
  split at q <;> first | exact False.elim q | skip
  obtain ⟨v, rfl, rv⟩ := rs.one
  obtain ⟨bs, h, q⟩ := q
  obtain ⟨a, vs, rfl, ha, r2⟩ := seq_at w rv h
  have e := r2.ints
  subst e
  exact cr_sum hc pins s σ H _ us Q I r ⟨a, bs, rfl, ha, k _ _ _ _ _ q .refl w .int⟩
def dict1 : OA
  | [x], μ, Q => ∃ kvs, DctAt μ x kvs ∧ NewD kvs μ Q
  | _, _, _ => False
theorem cdict : CallR X (.type "dict") (lowOA X.K dict1) := by
  rintro pins s σ H xs us Q I r ⟨F, μ, ds, Q0, w, rs, q, k⟩
  unfold dict1 at q
  split at q <;> first | exact False.elim q | skip
  obtain ⟨v, rfl, rv⟩ := rs.one
  obtain ⟨bs, h, q⟩ := q
  obtain ⟨a, vs, rfl, ha, r2⟩ := dct_at w rv h
  rw [Vals.ref1 r]
  exact d_copyOf I (.inl ha) fun p s' hp I' => ⟨.ref p, _, I', rfl, newD_ok w hp r2 q k⟩
end
end J

namespace J
open PySem PySem.Spec PyProof.Rows L2
section
variable {X : Cx} {Z : Zw}
theorem csorted : CallR X (.builtin "sorted") (lowOA X.K sorted1) := by
  rintro pins s σ H xs us Q I r ⟨F, μ, ds, Q0, w, rs, q, k⟩
  unfold sorted1 at q
  split at q <;> first | exact False.elim q | skip
  obtain ⟨v, rfl, rv⟩ := rs.one
  rcases q with ⟨ns, h, q⟩ | ⟨ss, h, hl, q⟩
  · obtain ⟨a, vs, rfl, ha, r2⟩ := seq_at w rv h
    have e := r2.ints
    subst e
    exact cr_sortedI pins s σ H _ us Q I r ⟨a, ns, rfl, ha, fun ns' p h1 h2 hp => newL_ok w hp (Reps.of_ints ns') (q ns' h1 h2) k⟩
  · obtain ⟨a, vs, rfl, ha, r2⟩ := seq_at w rv h
    have e := r2.strs
    subst e
    exact cr_sortedS pins s σ H _ us Q I r ⟨a, ss, rfl, ha, hl, fun ns' p h1 h2 hp => newL_ok w hp (Reps.of_strs ns') (q ns' h1 h2) k⟩

/-! ### methods of lists and dicts -/
def TyM (T : String) (x : D) (μ : Mu) : Prop :=
  match x with
  | .str _ => T = "str"
  | .int _ => T = "int"
  | .lst _ => T = "list"
  | .rol _ => T = "list"
  | .dct _ => T = "dict"
  | .ref a => (T = "list" ∧ ∃ xs, μ a = some (.lst xs)) ∨ (T = "dict" ∧ ∃ xs, μ a = some (.dct xs))
  | _ => False
theorem tyM_ok {K : PySem.W.Frag} {F H : Hp} {μ : Mu} {v : V} {x : D} {T : String} (w : Wd K F H μ) (r : Rep K F v x) (h : TyM T x μ) : tyV K T v H := by
  cases r with
  | str => exact h
  | int => exact h
  | lst hq _ => exact .inl ⟨h, _, SqL.of (w.sub _ _ hq)⟩
  | rol hq _ => exact .inl ⟨h, _, w.sub.seq hq⟩
  | dct hq _ => exact .inr (.inr (.inl ⟨h, .inl ⟨_, w.sub _ _ hq⟩⟩))
  | ref =>
    rcases h with ⟨e, xs, h⟩ | ⟨e, xs, h⟩
    · obtain ⟨vs, h1, _⟩ := mlst_at w h
      exact .inl ⟨e, _, SqL.of h1⟩
    · obtain ⟨vs, h1, _⟩ := mdct_at w h
      exact .inr (.inr (.inl ⟨e, .inl ⟨_, h1⟩⟩))
  | non => exact False.elim h
  | bl => exact False.elim h
  | ty => exact False.elim h
  | tup _ _ => exact False.elim h
  | ins _ _ => exact False.elim h
def jBM0 (T : String) (r : OM) (to : TE2) : TE2 := fun δ μ Q => to δ μ fun x μ1 => TyM T x μ1 ∧ r x [] μ1 Q
def jBM (T : String) (r : OM) (to : TE2) (t : TA2) : TE2 := fun δ μ Q => to δ μ fun x μ1 => TyM T x μ1 ∧ t δ μ1 fun ds μ2 => r x ds μ2 Q
theorem jbm0 {o : Expr} {to : TE2} {name : Str} {apos cpos : Pos} {T id : String} {r : OM} (pa : PlainAttrs T) (slot : Slot T name id) (hty : typeOf (.builtin id) = pure (.type "method_descriptor")) (hm : MtR X id (lowOM X.K r)) (ho : E2 X Z o to)
    (hbase : attributeBase o name X.env (eval o X.env) = eval o X.env := by rfl) (hline : (apos.endLine == cpos.line) = true := by rfl) : E2 X Z (.Call (.Attribute o name apos) [] [] cpos) (jBM0 T r to) := by
  refine pe_imp (pe_bm0 pa slot hty hm ho hbase hline) ?_
  rintro σ H Q ⟨F, δ, μ, Q0, m, q, k⟩
  refine ⟨F, δ, μ, _, m, q, ?_⟩
  rintro x μ1 F1 H1 v ⟨ht, q1⟩ g1 w1 r1
  exact ⟨tyM_ok w1 r1 ht, F1, μ1, x, [], Q0, w1, r1, .nil, q1, tr k g1⟩
theorem jbm {o e : Expr} {es : List Expr} {to : TE2} {t : TA2} {name : Str} {apos cpos : Pos} {T id : String} {r : OM} (pa : PlainAttrs T) (slot : Slot T name id) (hty : typeOf (.builtin id) = pure (.type "method_descriptor")) (hm : MtR X id (lowOM X.K r)) (ho : E2 X Z o to) (ha : A2 X Z (e :: es) t)
    (hbase : attributeBase o name X.env (eval o X.env) = eval o X.env := by rfl)
    (hfew : ((backTo cpos (starEach (e :: es) X.env)).all (fun x => !x.1) && (backToKw cpos (keywordEach [] X.env)).all (fun x => x.1.isSome)
      && decide ((e :: es).length + ([] : List Keyword).length + (if ([] : List Keyword).isEmpty then 0 else 1) < 30)) = true := by rfl)
    (hline : (apos.endLine == cpos.line) = true := by rfl) (hs : starEach (e :: es) X.env = (false, eval e X.env) :: starEach es X.env := by rfl) (hplain : (backTo cpos (starEach es X.env)).any (·.1) = false := by rfl) :
    E2 X Z (.Call (.Attribute o name apos) (e :: es) [] cpos) (jBM T r to t) := by
  refine pe_imp (pe_bm pa slot hty hm ho ha hbase hfew hline hs hplain) ?_
  rintro σ H Q ⟨F, δ, μ, Q0, m, q, k⟩
  refine ⟨F, δ, μ, _, m, q, ?_⟩
  rintro x μ1 F1 H1 v ⟨ht, q1⟩ g1 w1 r1
  refine ⟨tyM_ok w1 r1 ht, F1, δ, μ1, _, m.step g1 w1, q1, ?_⟩
  rintro ds μ2 F2 H2 vs q2 g2 w2 r2
  exact ⟨F2, μ2, x, ds, Q0, w2, r1.mono g2.ff, r2, q2, tr k (g1.trans g2)⟩
def append1 : OM
  | .ref a, [y], μ, Q => ∃ xs, μ a = some (.lst xs) ∧ xs.length < sizeLine ∧ Q .non (mup μ a (.lst (xs ++ [y])))
  | _, _, _, _ => False
theorem mappend : MtR X "list.append" (lowOM X.K append1) := by
  rintro pins s σ H x xs v us Q I rx r ⟨F, μ, d, ds, Q0, w, r1, rs, q, k⟩
  unfold append1 at q
  split at q <;> first | exact False.elim q | skip
  cases r1
  obtain ⟨y, rfl, ry⟩ := rs.one
  obtain ⟨zs, h, hl, q⟩ := q
  obtain ⟨vs, h1, r2⟩ := mlst_at w h
  obtain ⟨w2, g2⟩ := w.write h (RepM.lst (r2.append (.cons ry .nil)))
  exact mt_append pins s σ H _ _ v us Q I rx r ⟨_, vs, y, rfl, rfl, h1, by rw [r2.length]; exact hl, k _ _ _ _ _ q g2 w2 .non⟩
def pop1 : OM
  | .ref a, [], μ, Q => ∃ xs y, μ a = some (.lst xs) ∧ xs[xs.length - 1]? = some y ∧ Q y (mup μ a (.lst xs.dropLast))
  | .ref a, [.int i], μ, Q => ∃ xs k y, μ a = some (.lst xs) ∧ -(2 ^ 63) ≤ i ∧ i < 2 ^ 63 ∧ seqIndex? i xs.length = some k ∧ xs[k]? = some y ∧ Q y (mup μ a (.lst (xs.eraseIdx k)))
  | _, _, _, _ => False
theorem Reps.eraseIdx {K : PySem.W.Frag} {F : Hp} : ∀ {vs : List V} {ds : List D} (i : Nat), Reps K F vs ds → Reps K F (vs.eraseIdx i) (ds.eraseIdx i)
  | _, _, _, .nil => .nil
  | _, _, 0, .cons _ t => t
  | _, _, i + 1, .cons q t => .cons q (Reps.eraseIdx i t)
theorem mpop : MtR X "list.pop" (lowOM X.K pop1) := by
  rintro pins s σ H x xs v us Q I rx r ⟨F, μ, d, ds, Q0, w, r1, rs, q, k⟩
  unfold pop1 at q
  split at q <;> first | exact False.elim q | skip
  · cases r1
    cases rs
    obtain ⟨zs, y, h, hy, q⟩ := q
    obtain ⟨vs, h1, r2⟩ := mlst_at w h
    obtain ⟨yv, hyv, ry⟩ := r2.get hy
    obtain ⟨w2, g2⟩ := w.write h (RepM.lst r2.dropLast)
    exact mt_pop pins s σ H _ _ v us Q I rx r ⟨_, vs, yv, rfl, rfl, h1, by rw [r2.length]; exact hyv, k _ _ _ _ _ q g2 w2 ry⟩
  · cases r1
    obtain ⟨iv, rfl, ri⟩ := rs.one
    cases ri
    obtain ⟨zs, j, y, h, b1, b2, hj, hy, q⟩ := q
    obtain ⟨vs, h1, r2⟩ := mlst_at w h
    obtain ⟨yv, hyv, ry⟩ := r2.get hy
    obtain ⟨w2, g2⟩ := w.write h (RepM.lst (r2.eraseIdx j))
    exact mt_popAt pins s σ H _ _ v us Q I rx r ⟨_, vs, _, j, yv, rfl, rfl, h1, b1, b2, by rw [r2.length]; exact hj, hyv, k _ _ _ _ _ q g2 w2 ry⟩
def mergeD (kvs more : List (Key × D)) : List (Key × D) := more.foldl (fun acc kv => putKD acc kv.1 kv.2) kvs
theorem RepK.merge {K : PySem.W.Frag} {F : Hp} : ∀ {more : List (Key × V)} {ms : List (Key × D)} {kvs : List (Key × V)} {ds : List (Key × D)}, RepK K F more ms → RepK K F kvs ds → RepK K F (mergeK kvs more) (mergeD ds ms)
  | [], [], _, _, .nil, h => h
  | (k, v) :: vs, (_, d) :: ds, kvs, es, .cons r t, h => by
    show RepK K F (mergeK (putK kvs k v) vs) (mergeD (putKD es k d) ds)
    exact RepK.merge t (h.put r)
def update1 : OM
  | .ref a, [y], μ, Q => ∃ xs ys, μ a = some (.dct xs) ∧ DctAt μ y ys ∧ y ≠ .ref a ∧ xs.length + ys.length ≤ sizeLine ∧ Q .non (mup μ a (.dct (mergeD xs ys)))
  | _, _, _, _ => False
theorem mupdate : MtR X "dict.update" (lowOM X.K update1) := by
  rintro pins s σ H x xs v us Q I rx r ⟨F, μ, d, ds, Q0, w, r1, rs, q, k⟩
  unfold update1 at q
  split at q <;> first | exact False.elim q | skip
  rename_i a y
  cases r1
  obtain ⟨yv, rfl, ry⟩ := rs.one
  obtain ⟨zs, ys, h, hy, ne, hl, q⟩ := q
  obtain ⟨vs, h1, r2⟩ := mdct_at w h
  obtain ⟨b, ws, rfl, h2, r3⟩ := dct_at w ry hy
  obtain ⟨w2, g2⟩ := w.write h (RepM.dct (r3.merge r2))
  have hab : a ≠ b := by
    intro e
    subst e
    rcases hy with rfl | ⟨c, rfl, hc⟩
    · cases ry with
      | dct hf _ =>
        obtain ⟨fa, _⟩ := w.mts _ _ h
        rw [hf] at fa; cases fa
    · cases ry
      exact ne rfl
  cases (show v = Value.ref a from rx)
  rw [Vals.ref1 r]
  obtain ⟨z1, hd1, ps, rel1, dd1⟩ := dk_of I.hok h1
  obtain ⟨z2, hd2, ps2, rel2, dd2⟩ := dk_of I.hok h2
  refine call_meetsIn PySem.F.slot_dict_update dd1.typeIs PySem.F.entry_dict_update (PySem.F.args_dict_update_2 _ _) (meets_dict_update (mixKind X.prog X.w) a b hab hd2)
    ⟨ps, ps2, dd1, dd2, by rw [← rel1.length, ← rel2.length, r2.length, r3.length]; exact hl, fun h' hm _ hs => ?_⟩
  have hn := rel2.merge rel1
  have hlen := length_mergeK ws vs
  have he : ∃ q, h'.get? a = some q := let ⟨q, _, _, hq, _⟩ := hm; ⟨q, hq⟩
  exact ⟨.non, upd H a (.dK (mergeK vs ws)), d_write (t' := s.toks) I (by rw [h1]; exact True.intro) hs he (dk_new (by have := r2.length; have := r3.length; omega) hd1 hn hm), rfl, k _ _ _ _ _ q g2 w2 .non⟩

/-! ### slices -/
abbrev TO2 := Sg → Mu → (Option Int → Mu → Prop) → Prop
def lowO (K : PySem.W.Frag) (Z : Zw) (t : TO2) : TO := fun σ H Q => ∃ F δ μ Q0, Mt K Z F σ H δ μ ∧ t δ μ Q0 ∧ ∀ b μ' F' H', Q0 b μ' → Gr F H μ F' H' μ' → Wd K F' H' μ' → Q b H'
def jNoPart : TO2 := fun _ μ Q => Q none μ
def jPart (t : TE2) : TO2 := fun δ μ Q => t δ μ fun x μ1 => ∃ i, x = .int i ∧ Q (some i) μ1
theorem jo0 : PO X none (lowO X.K Z jNoPart) := ⟨fun pins s σ H Q I h => by
  obtain ⟨F, δ, μ, Q0, m, q, k⟩ := h
  exact (po_none (X := X)).run pins s σ H Q I (k none μ F H q .refl m.wd)⟩
theorem jo {e : Expr} {te : TE2} (h : E2 X Z e te) : PO X (some e) (lowO X.K Z (jPart te)) := ⟨fun pins s σ H Q I hh => by
  obtain ⟨F, δ, μ, Q0, m, q, k⟩ := hh
  refine (po_some h).run pins s σ H Q I ⟨F, δ, μ, _, m, q, ?_⟩
  rintro x μ1 F1 H1 v ⟨i, rfl, q1⟩ g1 w1 r1
  cases r1
  exact ⟨i, rfl, k _ _ _ _ q1 g1 w1⟩⟩
def cutD (xs : List D) (lo hi : Option Int) : List D := (xs.drop (HT.sIx xs.length 0 lo)).take (HT.sIx xs.length xs.length hi - HT.sIx xs.length 0 lo)
def sl2 (x : D) (lo hi : Option Int) (μ : Mu) (Q : QE) : Prop :=
  (∃ xs, SeqAt μ x xs ∧ NewL (cutD xs lo hi) μ Q) ∨ (∃ xs, x = .tup xs ∧ Q (.tup (cutD xs lo hi)) μ) ∨ ∃ z, x = .str z ∧ z.length ≤ sizeLine ∧ Q (.str (cutS z lo hi)) μ
def lowSl (K : PySem.W.Frag) : V → Option Int → Option Int → Hp → VK → Prop := fun x lo hi H Q => ∃ F μ d Q0, Wd K F H μ ∧ Rep K F x d ∧ sl2 d lo hi μ Q0 ∧ ∀ d' μ' F' H' v, Q0 d' μ' → Gr F H μ F' H' μ' → Wd K F' H' μ' → Rep K F' v d' → Q v H'
theorem cut_rep {K : PySem.W.Frag} {F : Hp} {vs : List V} {xs : List D} (r : Reps K F vs xs) (lo hi : Option Int) : Reps K F (cutV vs lo hi) (cutD xs lo hi) := by
  unfold cutV cutD
  rw [r.length]
  exact (r.drop _).take _
theorem osl : SlR X (lowSl X.K) := by
  rintro pins s σ H x v vl vu lo hi sl Q I rx hs pl pu ⟨F, μ, d, Q0, w, r1, q, k⟩
  rcases q with ⟨xs, hx, n⟩ | ⟨xs, rfl, q⟩ | ⟨z, rfl, hz, q⟩
  · obtain ⟨a, vs, rfl, ha, rs⟩ := seq_at w r1 hx
    exact sl_list pins s σ H _ v vl vu lo hi sl Q I rx hs pl pu ⟨a, vs, rfl, ha, fun p hp => newL_ok w hp (cut_rep rs lo hi) n k⟩
  · obtain ⟨a, vs, rfl, ha, rs⟩ := tup_at w r1
    refine sl_tupA pins s σ H _ v vl vu lo hi sl Q I rx hs pl pu ⟨a, vs, rfl, ha, fun e => ?_, fun _ p hp => newT_ok w hp (cut_rep rs lo hi) q k⟩
    have e2 : cutD xs lo hi = xs := by
      unfold cutD
      rw [← rs.length, e.1, e.2, rs.length]
      simp
    rw [e2] at q
    exact k _ _ _ _ _ q .refl w r1
  · cases r1
    exact sl_str pins s σ H _ v vl vu lo hi sl Q I rx hs pl pu ⟨z, rfl, hz, k _ _ _ _ _ q .refl w .str⟩
def jSl (te : TE2) (tl th : TO2) : TE2 := fun δ μ Q => te δ μ fun x μ1 => tl δ μ1 fun l μ2 => th δ μ2 fun u μ3 => sl2 x l u μ3 Q
theorem jsl {e : Expr} {lo hi : Option Expr} {p2 pos : Pos} {te : TE2} {tl th : TO2} (he : E2 X Z e te) (hl : PO X lo (lowO X.K Z tl)) (hu : PO X hi (lowO X.K Z th)) : E2 X Z (.Subscript e (.Slice lo hi none p2) pos) (jSl te tl th) := by
  refine pe_imp (pe_slice osl he hl hu) ?_
  rintro σ H Q ⟨F, δ, μ, Q0, m, q, k⟩
  refine ⟨F, δ, μ, _, m, q, ?_⟩
  rintro x μ1 F1 H1 v q1 g1 w1 r1
  refine ⟨F1, δ, μ1, _, m.step g1 w1, q1, ?_⟩
  rintro l μ2 F2 H2 q2 g2 w2
  refine ⟨F2, δ, μ2, _, (m.step g1 w1).step g2 w2, q2, ?_⟩
  rintro u μ3 F3 H3 q3 g3 w3
  exact ⟨F3, μ3, x, Q0, w3, (r1.mono g2.ff).mono g3.ff, q3, tr k ((g1.trans g2).trans g3)⟩

/-! ### stores to places -/
def set2 (o i v : D) (μ : Mu) (Q : Mu → Prop) : Prop :=
  (∃ p xs k j, o = .ref p ∧ i = .int k ∧ μ p = some (.lst xs) ∧ ixN xs.length k = some j ∧ Q (mup μ p (.lst (xs.set j v)))) ∨
  ∃ p kvs k, o = .ref p ∧ keyD i = some k ∧ μ p = some (.dct kvs) ∧ kvs.length < sizeLine ∧ Q (mup μ p (.dct (putKD kvs k v)))
def lowSet (K : PySem.W.Frag) : V → V → V → Hp → (Hp → Prop) → Prop := fun o i v H Q => ∃ F μ d e f Q0, Wd K F H μ ∧ Rep K F o d ∧ Rep K F i e ∧ Rep K F v f ∧ set2 d e f μ Q0 ∧ ∀ μ' F' H', Q0 μ' → Gr F H μ F' H' μ' → Wd K F' H' μ' → Q H'
theorem oset (hu : X.A.units + 1 < cLine) : PSet X (lowSet X.K) := by
  rintro pins s σ H o i v ov iv u Q I ro ri rv ⟨F, μ, d, e, f, Q0, w, r1, r2, r3, q, k⟩
  rcases q with ⟨p, xs, n, j, rfl, rfl, h, hj, q⟩ | ⟨p, kvs, kk, rfl, hk, h, hl, q⟩
  · cases r1; cases r2
    obtain ⟨vs, h1, rs⟩ := mlst_at w h
    obtain ⟨w2, g2⟩ := w.write h (RepM.lst (rs.set r3 j))
    exact set_list pins s σ H _ _ v ov iv u Q I ro ri rv ⟨p, vs, n, j, rfl, rfl, h1, by rw [rs.length]; exact hj, k _ _ _ q g2 w2⟩
  · cases r1
    have e1 := keyD_rep r2 hk
    subst e1
    obtain ⟨vs, h1, rs⟩ := mdct_at w h
    obtain ⟨w2, g2⟩ := w.write h (RepM.dct (rs.put (k := kk) r3))
    cases (show ov = Value.ref p from ro)
    exact d_setItem hu I (DPut.k h1 (by rw [rs.length]; exact hl)) ri rv fun s' I' => ⟨_, I', k _ _ _ q g2 w2⟩
def kSub (to ti : TE2) : TG2 := fun v δ μ Q => to δ μ fun o μ1 => ti δ μ1 fun i μ2 => set2 o i v μ2 fun μ3 => Q δ μ3
theorem kgsub {o i : Expr} {to ti : TE2} {pos : Pos} (hu : X.A.units + 1 < cLine) (ho : E2 X Z o to) (hi : E2 X Z i ti)
    (ha : ∀ v, assign (.Subscript o i pos) X.env v = (do
      let ov ← holding [v] (eval o X.env)
      let iv ← holding [v, ov] (eval i X.env)
      standAt pos
      holding [v, ov, iv] (setItem ov iv v)
      release [v, ov, iv] []) := by intro _; rfl) : G2 X Z (.Subscript o i pos) (kSub to ti) := by
  refine pg_imp (pg_sub ho hi (oset hu) ha) ?_
  rintro v σ H Q ⟨F, δ, μ, d, Q0, m, r, q, k⟩
  refine ⟨F, δ, μ, _, m, q, ?_⟩
  rintro x μ1 F1 H1 xv q1 g1 w1 r1
  refine ⟨F1, δ, μ1, _, m.step g1 w1, q1, ?_⟩
  rintro y μ2 F2 H2 yv q2 g2 w2 r2
  refine ⟨F2, μ2, x, y, d, _, w2, r1.mono g2.ff, r2, (r.mono g1.ff).mono g2.ff, q2, ?_⟩
  rintro μ3 F3 H3 q3 g3 w3
  exact k _ _ _ _ _ q3 ((g1.trans g2).trans g3) (((m.step g1 w1).step g2 w2).step g3 w3)
end
end J

namespace J
open PySem PySem.Spec PyProof.Rows L2
section
variable {X : Cx} {Z : Zw} {tg : Expr}
/-! ### what a loop walks -/
def iSeq' (x : D) (μ : Mu) (R : List D → (Mu → Prop) → Mu → Prop) : Prop :=
  match x with
  | .lst xs => R xs (fun _ => True) μ
  | .rol xs => R xs (fun _ => True) μ
  | .ref a => ∃ xs, μ a = some (.lst xs) ∧ R xs (fun μ' => μ' a = some (.lst xs)) μ
  | _ => False
def iL (t : TE2) : TI2 := fun δ μ R => t δ μ fun x μ1 => iSeq' x μ1 R
theorem itOk_list {K : PySem.W.Frag} {F : Hp} {a : Addr} {vs : List V} {xs : List D} {G : Mu → Prop} (rs : Reps K F vs xs) (h : ∀ F' H' μ', Same F F' → Wd K F' H' μ' → G μ' → ∃ ws, SqL K H' a ws ∧ Reps K F' ws xs) : ItOk K (Itl K a) F xs G := by
  intro F' H' μ' ff w g
  obtain ⟨ws, hs, rs'⟩ := h F' H' μ' ff w g
  refine ⟨fun i d hd => ?_, fun i hi => ⟨ws, hs, by rw [rs'.length]; exact hi⟩⟩
  obtain ⟨v, hv, rv⟩ := rs'.get hd
  refine ⟨⟨ws, v, hs, hv⟩, ?_⟩
  rintro x H2 ⟨rfl, hy⟩
  have e := hy ws hs
  rw [hv] at e
  cases e
  exact ⟨F', .refl, w, rv⟩
theorem ji_list {l : Expr} {t : TE2} (hl : E2 X Z l t) : I2 X Z tg l (iL t) := by
  refine pi_imp (pi_list hl) ?_
  rintro σ H R ⟨F, δ, μ, Q0, m, q, k⟩
  refine ⟨F, δ, μ, _, m, q, ?_⟩
  rintro x μ1 F1 H1 v q1 g1 w1 r1
  unfold iSeq' at q1
  split at q1 <;> first | exact False.elim q1 | skip
  · rename_i xs
    obtain ⟨a, vs, rfl, ha, rs⟩ := seq_at w1 r1 SeqAt.f
    refine ⟨a, rfl, ⟨_, ha⟩, k _ _ _ _ _ _ q1 g1 w1 (itOk_list rs fun F' H' μ' ff w' _ => ?_)⟩
    cases r1 with
    | lst hq rq => exact ⟨_, SqL.of (w'.sub _ _ (ff _ _ hq)), rq.mono ff⟩
  · rename_i xs
    obtain ⟨a, vs, rfl, ha, rs⟩ := seq_at w1 r1 SeqAt.r
    refine ⟨a, rfl, ⟨_, ha⟩, k _ _ _ _ _ _ q1 g1 w1 (itOk_list rs fun F' H' μ' ff w' _ => ?_)⟩
    cases r1 with
    | rol hq rq => exact ⟨_, w'.sub.seq (ff.seq hq), rq.mono ff⟩
  · obtain ⟨xs, h, q1⟩ := q1
    cases r1
    obtain ⟨vs, h1, rs⟩ := mlst_at w1 h
    refine ⟨_, rfl, ⟨_, SqL.of h1⟩, k _ _ _ _ _ _ q1 g1 w1 (itOk_list rs fun F' H' μ' ff w' g => ?_)⟩
    obtain ⟨ws, h2, rs2⟩ := mlst_at w' g
    exact ⟨ws, SqL.of h2, rs2⟩
def iT (t : TE2) : TI2 := fun δ μ R => t δ μ fun x μ1 => ∃ xs, x = .tup xs ∧ R xs (fun _ => True) μ1
theorem ji_tup {l : Expr} {t : TE2} (hl : E2 X Z l t) : I2 X Z tg l (iT t) := by
  refine pi_imp (pi_tup hl) ?_
  rintro σ H R ⟨F, δ, μ, Q0, m, q, k⟩
  refine ⟨F, δ, μ, _, m, q, ?_⟩
  rintro x μ1 F1 H1 v ⟨xs, rfl, q1⟩ g1 w1 r1
  cases r1 with
  | tup hq rs =>
    refine ⟨_, rfl, ⟨_, sqt_mono w1.sub hq⟩, k _ _ _ _ _ _ q1 g1 w1 ?_⟩
    intro F' H' μ' ff w' _
    have hs := sqt_mono w'.sub (sqt_mono ff hq)
    have rs' := rs.mono ff
    refine ⟨fun i d hd => ?_, fun i hi => ⟨_, hs, by rw [rs'.length]; exact hi⟩⟩
    obtain ⟨v, hv, rv⟩ := rs'.get hd
    refine ⟨⟨_, v, hs, hv⟩, ?_⟩
    rintro x H2 ⟨rfl, hy⟩
    have e := hy _ hs
    rw [hv] at e
    cases e
    exact ⟨F', .refl, w', rv⟩
/-- the ints from lo on -/
def rngD (lo : Int) (n : Nat) : List D := (List.range n).map fun i => .int (lo + (i : Nat))
theorem itOk_rng {K : PySem.W.Frag} {F : Hp} {lo : Int} {n : Nat} {G : Mu → Prop} : ItOk K (Itr lo n) F (rngD lo n) G := by
  intro F' H' μ' ff w g
  refine ⟨fun i d hd => ?_, fun i hi => (by show n ≤ i; simpa [rngD] using hi)⟩
  unfold rngD at hd
  rw [List.getElem?_map] at hd
  by_cases hi : i < n
  · rw [List.getElem?_range hi] at hd
    cases hd
    refine ⟨hi, ?_⟩
    rintro x H2 ⟨rfl, rfl⟩
    exact ⟨F', .refl, w, .int⟩
  · rw [List.getElem?_eq_none (by simpa using hi)] at hd
    cases hd
def rngOk (i : Int) : Prop := -(2 ^ 62) ≤ i ∧ i < 2 ^ 62
def iR1 (t : TA2) : TI2 := fun δ μ R => t δ μ fun ds μ1 => ∃ j, ds = [.int j] ∧ rngOk j ∧ R (rngD 0 j.toNat) (fun _ => True) μ1
def iR2 (t : TA2) : TI2 := fun δ μ R => t δ μ fun ds μ1 => ∃ i j, ds = [.int i, .int j] ∧ rngOk i ∧ rngOk j ∧ R (rngD i (j - i).toNat) (fun _ => True) μ1
theorem ji_range1 {a : Expr} {t : TA2} {p pos : Pos} (hg : Gl X "range") (hm : X.mg "range" = none) (ha : A2 X Z [a] t) (hs : starEach [a] X.env = [(false, eval a X.env)] := by rfl) : I2 X Z tg (.Call (.Name "range" p) [a] [] pos) (iR1 t) := by
  refine pi_imp (pi_range1 hg hm ha hs) ?_
  rintro σ H R ⟨F, δ, μ, Q0, m, q, k⟩
  refine ⟨F, δ, μ, _, m, q, ?_⟩
  rintro ds μ1 F1 H1 vs ⟨j, rfl, hj, q1⟩ g1 w1 r1
  obtain ⟨v, rfl, rv⟩ := r1.one
  cases rv
  exact ⟨j, rfl, hj.1, hj.2, k _ _ _ _ _ _ q1 g1 w1 itOk_rng⟩
theorem ji_range2 {a b : Expr} {t : TA2} {p pos : Pos} (hg : Gl X "range") (hm : X.mg "range" = none) (ha : A2 X Z [a, b] t) (hs : starEach [a, b] X.env = [(false, eval a X.env), (false, eval b X.env)] := by rfl) (hs2 : starEach [b] X.env = [(false, eval b X.env)] := by rfl) : I2 X Z tg (.Call (.Name "range" p) [a, b] [] pos) (iR2 t) := by
  refine pi_imp (pi_range2 hg hm ha hs hs2) ?_
  rintro σ H R ⟨F, δ, μ, Q0, m, q, k⟩
  refine ⟨F, δ, μ, _, m, q, ?_⟩
  rintro ds μ1 F1 H1 vs ⟨i, j, rfl, hi, hj, q1⟩ g1 w1 r1
  obtain ⟨v, u, rfl, rv, ru⟩ := r1.two
  cases rv; cases ru
  exact ⟨i, j, rfl, ⟨hi.1, hi.2, hj.1, hj.2⟩, k _ _ _ _ _ _ q1 g1 w1 itOk_rng⟩
def strD (x : Str) : List D := x.cps.toList.map fun c => .str ⟨#[c]⟩
def iStr2 (t : TE2) : TI2 := fun δ μ R => t δ μ fun x μ1 => ∃ z, x = .str z ∧ R (strD z) (fun _ => True) μ1
theorem ji_str {l : Expr} {t : TE2} (hl : E2 X Z l t) : I2 X Z tg l (iStr2 t) := by
  refine pi_imp (pi_str hl) ?_
  rintro σ H R ⟨F, δ, μ, Q0, m, q, k⟩
  refine ⟨F, δ, μ, _, m, q, ?_⟩
  rintro x μ1 F1 H1 v ⟨z, rfl, q1⟩ g1 w1 r1
  cases r1
  refine ⟨z, rfl, k _ _ _ _ _ _ q1 g1 w1 ?_⟩
  intro F' H' μ' ff w' _
  refine ⟨fun i d hd => ?_, fun i hi => (by show z.cps.size ≤ i; simpa [strD] using hi)⟩
  unfold strD at hd
  rw [List.getElem?_map] at hd
  cases e : z.cps.toList[i]? with
  | none => rw [e] at hd; cases hd
  | some c =>
    rw [e] at hd
    cases hd
    have hi : i < z.cps.size := by
      have := (List.getElem?_eq_some_iff.mp e).1
      simpa using this
    refine ⟨hi, ?_⟩
    rintro x H2 ⟨rfl, c', hc, rfl⟩
    rw [← Array.getElem?_toList, e] at hc
    cases hc
    exact ⟨F', .refl, w', .str⟩

/-! ### comprehensions -/
def wipeD (δ : Sg) : List Nat → Sg
  | [] => δ
  | v :: vs => (wipeD δ vs).set v none
theorem repE_wipe {K : PySem.W.Frag} {F : Hp} {σ : Sv} {δ : Sg} (r : RepE K F σ δ) : ∀ vs : List Nat, RepE K F (wipe σ vs) (wipeD δ vs)
  | [] => r
  | v :: vs => (repE_wipe r vs).wipe1 v
theorem wipe_at {σ : Sv} : ∀ (vs : List Nat) (i : Nat), (wipe σ vs)[i]? = if i ∈ vs then σ[i]?.map (fun _ => none) else σ[i]?
  | [], i => by simp [wipe]
  | v :: vs, i => by
    rw [wipe, List.getElem?_set]
    have ih := wipe_at (σ := σ) vs i
    by_cases h : v = i
    · subst h
      simp only [if_true, List.mem_cons, true_or]
      rw [wipe_length]
      split
      · next hl => simp [hl]
      · next hl => simp [List.getElem?_eq_none (Nat.le_of_not_lt hl)]
    · rw [if_neg h, ih]
      have h' : ¬ i = v := fun e => h e.symm
      simp only [List.mem_cons, h', false_or]
theorem wipe_set {σ : Sv} {vs : List Nat} {j : Nat} (hj : j ∈ vs) (y : Option V) : wipe ((wipe σ vs).set j y) vs = wipe σ vs := by
  apply List.ext_getElem?
  intro i
  rw [wipe_at, wipe_at, List.getElem?_set, wipe_at, wipe_length]
  by_cases hi : i ∈ vs
  · simp only [hi, if_true]
    by_cases hji : j = i
    · subst hji
      simp only [if_true]
      split
      · next hl => simp [hl]
      · next hl => simp [List.getElem?_eq_none (Nat.le_of_not_lt hl)]
    · rw [if_neg hji]
      cases σ[i]? <;> simp
  · simp only [hi, if_false]
    have hji : ¬ j = i := fun e => hi (e ▸ hj)
    rw [if_neg hji]
/-- a target that stores into the slots vs alone -/
structure GW (K : PySem.W.Frag) (Z : Zw) (vs : List Nat) (g : TG) (g2 : TG2) : Prop where
  run : ∀ (v : V) (d : D) (σ : Sv) (F H : Hp) (δ : Sg) (μ : Mu) (Q0 : Sg → Mu → Prop) (Q : Sv → Hp → Prop), Mt K Z F (wipe σ vs) H δ μ → Rep K F v d → g2 d δ μ Q0 → (∀ δ' σ', Q0 δ' μ → Mt K Z F σ' H δ' μ → wipe σ' vs = wipe σ vs → Q σ' H) → g v (wipe σ vs) H Q
theorem gw_name {K : PySem.W.Frag} {vs : List Nat} {j : Nat} (hj : j ∈ vs) : GW K Z vs (gName j) (kName j) := ⟨fun v d σ F H δ μ Q0 Q m r q k => k _ _ q ⟨m.wd, m.env.set r j, m.z⟩ (wipe_set hj _)⟩
/-- names one after another -/
def kNames : List Nat → TGs2
  | [] => kNil
  | j :: js => kCons (kName j) (kNames js)
def gNames : List Nat → TGs
  | [] => gNil
  | j :: js => gCons (gName j) (gNames js)
theorem wipe_sets {σ τ : Sv} {vs : List Nat} {j : Nat} (hj : j ∈ vs) (h : wipe τ vs = wipe σ vs) (y : Option V) : wipe (τ.set j y) vs = wipe σ vs := by
  rw [← h]
  apply List.ext_getElem?
  intro i
  rw [wipe_at, wipe_at, List.getElem?_set]
  by_cases hi : i ∈ vs
  · simp only [hi, if_true]
    by_cases hji : j = i
    · subst hji
      simp only [if_true]
      split
      · next hl => simp [hl]
      · next hl => simp [List.getElem?_eq_none (Nat.le_of_not_lt hl)]
    · rw [if_neg hji]
  · simp only [hi, if_false]
    have hji : ¬ j = i := fun e => hi (e ▸ hj)
    rw [if_neg hji]
theorem gnames_run {K : PySem.W.Frag} {vs : List Nat} {σ : Sv} {F H : Hp} {μ : Mu} {Q0 : Sg → Mu → Prop} {Q : Sv → Hp → Prop} (k : ∀ δ' σ', Q0 δ' μ → Mt K Z F σ' H δ' μ → wipe σ' vs = wipe σ vs → Q σ' H) :
    ∀ (js : List Nat) (us : List V) (ds : List D) (τ : Sv) (δ : Sg), (∀ j ∈ js, j ∈ vs) → Mt K Z F τ H δ μ → wipe τ vs = wipe σ vs → Reps K F us ds → kNames js ds δ μ Q0 → gNames js us τ H Q
  | [], us, ds, τ, δ, _, m, hw, r, ⟨e, q⟩ => by
    subst e
    cases r
    exact ⟨rfl, k _ _ q m hw⟩
  | j :: js, us, ds, τ, δ, hj, m, hw, r, ⟨d, rr, e, q⟩ => by
    subst e
    cases r with
    | cons ra rb => exact ⟨_, _, rfl, gnames_run k js _ rr (τ.set j _) (δ.set j (some d)) (fun i hi => hj i (List.mem_cons_of_mem _ hi)) ⟨m.wd, m.env.set ra j, m.z⟩ (wipe_sets (hj j (List.mem_cons_self ..)) hw _) rb q⟩
theorem wipe_wipe {σ : Sv} {vs : List Nat} : wipe (wipe σ vs) vs = wipe σ vs := by
  apply List.ext_getElem?
  intro i
  rw [wipe_at, wipe_at]
  by_cases hi : i ∈ vs
  · simp only [hi, if_true]
    cases σ[i]? <;> simp
  · simp only [hi, if_false]
theorem gw_names {K : PySem.W.Frag} {vs : List Nat} {n : Nat} {js : List Nat} (hj : ∀ j ∈ js, j ∈ vs) : GW K Z vs (gTup K n (gNames js)) (kTup n (kNames js)) := ⟨fun v d σ F H δ μ Q0 Q m r q k => by
  obtain ⟨xs, rfl, hl, q⟩ := q
  obtain ⟨a, us, rfl, ha, rs⟩ := tup_at m.wd r
  exact ⟨a, us, rfl, ha, by rw [rs.length]; exact hl, gnames_run k js us xs _ δ hj m wipe_wipe rs q⟩⟩
def jLcl (g : TG2) (tt : TT2) (te : TE2) (δ0 : Sg) (G : Mu → Prop) (k : List D → Mu → Prop) : List D → List D → Mu → Prop
  | [], acc => fun μ => G μ ∧ k acc μ
  | x :: r, acc => fun μ => G μ ∧ g x δ0 μ fun δ1 μ1 => tt δ1 μ1 fun b μ2 => if b = true then te δ1 μ2 fun y μ3 => acc.length < sizeLine ∧ jLcl g tt te δ0 G k r (acc ++ [y]) μ3 else jLcl g tt te δ0 G k r acc μ2
/-- [elt for target in iter if ..]: the items one by one -/
def jLc (ti : TI2) (g : TG2) (tt : TT2) (te : TE2) (vs : List Nat) : TE2 := fun δ μ Q => ti δ μ fun items G μ1 => jLcl g tt te (wipeD δ vs) G (fun acc μ' => NewL acc μ' Q) items [] μ1
def jYes : TT2 := fun _ μ Q => Q true μ
theorem jts0 : PTs X [] (lowT X.K Z jYes) := ⟨fun pins s σ H Q I h => by
  obtain ⟨F, δ, μ, Q0, m, q, k⟩ := h
  exact (pts_nil (X := X)).run pins s σ H Q I (k true μ F H q .refl m.wd)⟩
theorem jts1 {c : Expr} {t : TT2} (h : T2 X Z c t) : PTs X [c] (lowT X.K Z t) := pts_one h
theorem low_lc {K : PySem.W.Frag} {ti : TI2} {g : TG} {g2 : TG2} {tt : TT2} {te : TE2} {vs : List Nat} {σ : Sv} {H : Hp} {Q : VK} (gw : GW K Z vs g g2) (h : lowE K Z (jLc ti g2 tt te vs) σ H Q) : tLc (lowI K Z ti) g (lowT K Z tt) (lowE K Z te) vs σ H Q := by
  obtain ⟨F, δ, μ, Q0, m, q, k⟩ := h
  refine ⟨F, δ, μ, _, m, q, ?_⟩
  intro items G μ1 F1 H1 J q1 g1 w1 io L hL
  have m1 := m.step g1 w1
  have fL : F1 L = none := by
    cases e : F1 L with
    | none => rfl
    | some u => rw [w1.sub _ _ e] at hL; cases hL
  have uL : μ1 L = none := by
    cases e : μ1 L with
    | none => rfl
    | some u =>
      obtain ⟨_, ho, e2, _⟩ := w1.mts _ _ e
      rw [e2] at hL; cases hL
  let P : Nat → Hp → Prop := fun i H2 => ∃ F2 μ2 acc us, Gr F1 H1 μ1 F2 H2 μ2 ∧ Wd K F2 H2 μ2 ∧ H2 L = some (.lst us) ∧ F2 L = none ∧ μ2 L = none ∧ Reps K F2 us acc ∧ jLcl g2 tt te (wipeD δ vs) G (fun acc μ' => NewL acc μ' Q0) (items.drop i) acc μ2
  have wr : ∀ {F2 H2 μ2} {us : List V}, Wd K F2 H2 μ2 → F2 L = none → μ2 L = none → Wd K F2 (upd H2 L (.lst us)) μ2 := by
    intro F2 H2 μ2 us w2 h1 h2
    refine ⟨fun b u e => by rw [upd_ne (fun z => by rw [z, h1] at e; cases e)]; exact w2.sub b u e, fun a u e => ?_⟩
    obtain ⟨x1, ho, x2, x3⟩ := w2.mts a u e
    exact ⟨x1, ho, by rw [upd_ne (fun z => by rw [z, h2] at e; cases e)]; exact x2, x3⟩
  have gr : ∀ {F2 H2 μ2} {us : List V}, Gr F1 H1 μ1 F2 H2 μ2 → Gr F1 H1 μ1 F2 (upd H2 L (.lst us)) μ2 := by
    intro F2 H2 μ2 us g
    refine ⟨g.ff, fun b u h1 h2 h3 => ?_⟩
    obtain ⟨x1, x2, x3⟩ := g.fr b u h1 h2 h3
    exact ⟨by rw [upd_ne (fun z => by rw [z, hL] at h1; cases h1)]; exact x1, x2, x3⟩
  refine ⟨fun i n H2 => n = items.length - i ∧ i ≤ items.length ∧ P i H2, ⟨_, rfl, Nat.zero_le _, F1, μ1, [], [], gr .refl, wr w1 fL uL, upd_same, fL, uL, .nil, q1⟩, ?_⟩
  rintro i n H2 ⟨rfl, hi, F2, μ2, acc, us, g2', w2, hL2, fL2, uL2, rs, q2⟩
  by_cases hlt : i < items.length
  · obtain ⟨x, hx, hd⟩ := drop_at hlt
    rw [hd] at q2
    obtain ⟨hG, q2⟩ := q2
    obtain ⟨go, yl⟩ := (io F2 H2 μ2 g2'.ff w2 hG).1 i x hx
    refine .inr ⟨go, P (i + 1), fun H' z => ⟨items.length - (i + 1), by omega, rfl, by omega, z⟩, ?_⟩
    intro xv H3 hy
    obtain ⟨F3, g3, w3, r3⟩ := yl xv H3 hy
    have gg3 := g2'.trans g3
    obtain ⟨hL3, fL3, uL3⟩ := g3.fr L _ hL2 fL2 uL2
    have m3 : Mt K Z F3 (wipe σ vs) H3 (wipeD δ vs) μ2 := ⟨w3, repE_wipe (m1.env.mono gg3.ff) vs, Z.up m1.z gg3⟩
    refine gw.run xv x σ F3 H3 _ μ2 _ _ m3 r3 q2 ?_
    intro δ4 σ4 q4 m4 hw4
    refine ⟨hw4, F3, δ4, μ2, _, m4, q4, ?_⟩
    intro b μ5 F5 H5 q5 g5 w5
    have gg5 := gg3.trans g5
    obtain ⟨hL5, fL5, uL5⟩ := g5.fr L _ hL3 fL3 uL3
    cases b with
    | true =>
      rw [if_pos rfl] at q5 ⊢
      refine ⟨F5, δ4, μ5, _, m4.step g5 w5, q5, ?_⟩
      rintro y μ6 F6 H6 yv ⟨hz, q6⟩ g6 w6 r6
      obtain ⟨hL6, fL6, uL6⟩ := g6.fr L _ hL5 fL5 uL5
      exact ⟨us, hL6, by rw [rs.length]; exact hz, F6, μ6, acc ++ [y], us ++ [yv], gr (gg5.trans g6), wr w6 fL6 uL6, upd_same, fL6, uL6, (rs.mono ((g3.trans g5).trans g6).ff).append (.cons r6 .nil), q6⟩
    | false =>
      rw [if_neg Bool.false_ne_true] at q5 ⊢
      exact ⟨F5, μ5, acc, us, gg5, w5, hL5, fL5, uL5, rs.mono (g3.trans g5).ff, q5⟩
  · have ei : i = items.length := by omega
    subst ei
    rw [List.drop_length] at q2
    obtain ⟨hG, q2⟩ := q2
    refine .inl ⟨(io F2 H2 μ2 g2'.ff w2 hG).2 _ (Nat.le_refl _), ?_⟩
    have back : ∀ b o, H b = some o → F b = none → μ b = none → b ≠ L := fun b o h1 h2 h3 z => by
      obtain ⟨x1, _⟩ := g1.fr b o h1 h2 h3
      rw [z, hL] at x1; cases x1
    have gt := g1.trans g2'
    rcases q2 with q2 | q2
    · have ff : Same F2 (upd F2 L (.lst us)) := fun b u e => by rw [upd_ne (ne_of_none e fL2)]; exact e
      have w3 : Wd K (upd F2 L (.lst us)) H2 μ2 := by
        refine ⟨fun b u e => ?_, fun a u e => ?_⟩
        · by_cases hb : b = L
          · subst hb; rw [upd_same] at e; rw [hL2]; exact e
          · rw [upd_ne hb] at e; exact w2.sub b u e
        · obtain ⟨x1, ho, x2, x3⟩ := w2.mts a u e
          exact ⟨by rw [upd_ne (fun z => by rw [z, uL2] at e; cases e)]; exact x1, ho, x2, x3.mono ff⟩
      refine k _ μ2 _ H2 _ q2 ⟨gt.ff.trans ff, fun b o h1 h2 h3 => ?_⟩ w3 (.lst upd_same (rs.mono ff))
      obtain ⟨x1, x2, x3⟩ := gt.fr b o h1 h2 h3
      exact ⟨x1, by rw [upd_ne (back b o h1 h2 h3)]; exact x2, x3⟩
    · have w3 : Wd K F2 H2 (mup μ2 L (.lst acc)) := by
        refine ⟨w2.sub, fun a u e => ?_⟩
        by_cases ha : a = L
        · subst ha
          rw [mup_same] at e; cases e
          exact ⟨fL2, _, hL2, .lst rs⟩
        · rw [mup_ne ha] at e
          exact w2.mts a u e
      refine k _ _ _ H2 _ (q2 L uL2) ⟨gt.ff, fun b o h1 h2 h3 => ?_⟩ w3 .ref
      obtain ⟨x1, x2, x3⟩ := gt.fr b o h1 h2 h3
      exact ⟨x1, x2, by rw [mup_ne (back b o h1 h2 h3)]; exact x3⟩
theorem jlc {elt tg iter : Expr} {ifs : List Expr} {scope : Scope} {own : List (Str × Nat)} {pos : Pos} {ti : TI2} {g : TG} {g2 : TG2} {tt : TT2} {te : TE2} (hc : X.calm = true) (hN : X.N.Nodup) (hi : I2 X Z tg iter ti) (ok : BlkOk X.N X.env.scope scope own) (gw : GW X.K Z (own.map (·.2)) g g2)
    (hg : ∀ (s : Shared) (H : Hp) (C : Addr) (cl : List (Str × Addr)) (fp : List Addr), PG (X.blk s H scope (compEnvC scope cl C X.env) fp) tg g) (ht : ∀ (s : Shared) (H : Hp) (C : Addr) (cl : List (Str × Addr)) (fp : List Addr), PTs (X.blk s H scope (compEnvC scope cl C X.env) fp) ifs (lowT X.K Z tt))
    (he : ∀ (s : Shared) (H : Hp) (C : Addr) (cl : List (Str × Addr)) (fp : List Addr), E2 (X.blk s H scope (compEnvC scope cl C X.env) fp) Z elt te) (hs : ∀ x, foldedSetIterable iter X.env x = pure x := by intro _; rfl) :
    E2 X Z (.ListComp elt [⟨tg, iter, ifs, 0⟩] scope pos) (jLc ti g2 tt te (own.map (·.2))) := pe_imp (pe_lc hc hN hi ok hg ht he hs) fun _ _ _ q => low_lc gw q
theorem js_setLc {i : Nat} {y : Str} {py : Pos} {elt tg iter : Expr} {ifs : List Expr} {scope : Scope} {own : List (Str × Nat)} {pos spos : Pos} {ti : TI2} {g : TG} {g2 : TG2} {tt : TT2} {te : TE2} (hc : X.calm = true) (hN : X.N.Nodup) (hy : X.N[i]? = some y) (hyl : X.env.scope.names.lookup y = some .local)
    (hsw : swapsWith (.ListComp elt [⟨tg, iter, ifs, 0⟩] scope pos) (some (.Name y py)) spos.line X.env = pure true) (hi : I2 X Z tg iter ti) (ok : BlkOk X.N X.env.scope scope own) (gw : GW X.K Z (own.map (·.2)) g g2)
    (hg : ∀ (s : Shared) (H : Hp) (C : Addr) (cl : List (Str × Addr)) (fp : List Addr), PG (X.blk s H scope (compEnvC scope cl C X.env) fp) tg g) (ht : ∀ (s : Shared) (H : Hp) (C : Addr) (cl : List (Str × Addr)) (fp : List Addr), PTs (X.blk s H scope (compEnvC scope cl C X.env) fp) ifs (lowT X.K Z tt))
    (he : ∀ (s : Shared) (H : Hp) (C : Addr) (cl : List (Str × Addr)) (fp : List Addr), E2 (X.blk s H scope (compEnvC scope cl C X.env) fp) Z elt te) (hs : ∀ x, foldedSetIterable iter X.env x = pure x := by intro _; rfl) :
    S2 X Z (.Assign [.Name y py] (.ListComp elt [⟨tg, iter, ifs, 0⟩] scope pos) spos) (jAsg (jLc ti g2 tt te (own.map (·.2))) (kName i)) := by
  refine ps_imp (ps_setLc (te := lowE X.K Z te) hc hN hy hyl hsw hi ok hg ht he hs) ?_
  rintro D σ H ⟨F, δ, μ, D2, m, q, e⟩
  refine low_lc gw (K := X.K) (Z := Z) ⟨F, δ, μ, _, m, q, ?_⟩
  intro d μ1 F1 H1 v q1 g1 w1 r1
  have m1 := m.step g1 w1
  exact e.nx _ μ1 F1 _ H1 q1 g1 ⟨w1, m1.env.set r1 i, m1.z⟩

/-! ### displays of dicts -/
def jPairs : List (TE2 × TE2) → Sg → Mu → (List (D × D) → Mu → Prop) → Prop
  | [], _, μ, Q => Q [] μ
  | (tk, tv) :: r, δ, μ, Q => tk δ μ fun x μ1 => tv δ μ1 fun y μ2 => jPairs r δ μ2 fun ps μ3 => Q ((x, y) :: ps) μ3
inductive RepP (K : PySem.W.Frag) (F : Hp) : List (V × V) → List (D × D) → Prop
  | nil : RepP K F [] []
  | cons {v w d e vs ds} : Rep K F v d → Rep K F w e → RepP K F vs ds → RepP K F ((v, w) :: vs) ((d, e) :: ds)
def lowP (K : PySem.W.Frag) (Z : Zw) : List (TE2 × TE2) → List (TE × TE) := List.map fun p => (lowE K Z p.1, lowE K Z p.2)
theorem low_pairs {K : PySem.W.Frag} {σ : Sv} {δ : Sg} : ∀ (trs : List (TE2 × TE2)) {F H : Hp} {μ : Mu} {Q0 : List (D × D) → Mu → Prop} {Q : List (V × V) → Hp → Prop}, Mt K Z F σ H δ μ → jPairs trs δ μ Q0 →
    (∀ ps μ' F' H' vs, Q0 ps μ' → Gr F H μ F' H' μ' → Wd K F' H' μ' → RepP K F' vs ps → Q vs H') → tPairs (lowP K Z trs) σ H Q
  | [], F, H, μ, Q0, Q, m, q, k => k [] μ F H [] q .refl m.wd .nil
  | (tk, tv) :: r, F, H, μ, Q0, Q, m, q, k => by
    refine ⟨F, δ, μ, _, m, q, ?_⟩
    intro x μ1 F1 H1 v q1 g1 w1 r1
    refine ⟨F1, δ, μ1, _, m.step g1 w1, q1, ?_⟩
    intro y μ2 F2 H2 u q2 g2 w2 r2
    refine low_pairs r ((m.step g1 w1).step g2 w2) q2 ?_
    intro ps μ3 F3 H3 vs q3 g3 w3 r3
    exact k _ _ _ _ _ q3 ((g1.trans g2).trans g3) w3 (.cons ((r1.mono g2.ff).mono g3.ff) (r2.mono g3.ff) r3)
def keysOf : List (D × D) → Option (List (Key × D))
  | [] => some []
  | (k, v) :: r => (keyD k).bind fun k' => (keysOf r).map fun rs => (k', v) :: rs
theorem keysOf_rep {K : PySem.W.Frag} {F : Hp} : ∀ {vs : List (V × V)} {ps : List (D × D)} {kvs : List (Key × D)}, RepP K F vs ps → keysOf ps = some kvs → ∃ kws : List (Key × V), vs = kws.map (fun kv => (kV kv.1, kv.2)) ∧ RepK K F kws kvs
  | _, _, _, .nil, h => by
    cases h
    exact ⟨[], rfl, .nil⟩
  | _, _, _, .cons (d := d) (ds := ds) r1 r2 t, h => by
    unfold keysOf at h
    cases e : keyD d with
    | none => rw [e] at h; cases h
    | some kk =>
      rw [e] at h
      cases e2 : keysOf ds with
      | none => rw [e2] at h; cases h
      | some rs =>
        rw [e2] at h
        cases h
        obtain ⟨kws, rfl, rk⟩ := keysOf_rep t e2
        have e3 := keyD_rep r1 e
        subst e3
        exact ⟨_ :: kws, rfl, .cons r2 rk⟩
def jDisp (trs : List (TE2 × TE2)) : TE2 := fun δ μ Q => jPairs trs δ μ fun ps μ1 => ∃ kvs, keysOf ps = some kvs ∧ kvs.length ≤ 15 ∧ NewD (mergeD [] kvs) μ1 Q
theorem jpps0 {pos : Pos} : PPs X pos [] [] (lowP X.K Z []) := pps_nil
theorem jpps {pos : Pos} {k v : Expr} {ks : List (Option Expr)} {vs : List Expr} {tk tv : TE2} {trs : List (TE2 × TE2)} (hk : E2 X Z k tk) (hv : E2 X Z v tv) (hr : PPs X pos ks vs (lowP X.K Z trs)) : PPs X pos (some k :: ks) (v :: vs) (lowP X.K Z ((tk, tv) :: trs)) := pps_cons hk hv hr
theorem jdisp {pos : Pos} {keys : List (Option Expr)} {values : List Expr} {trs : List (TE2 × TE2)} {y : PE X (.Dict keys values pos) (tDisp (lowP X.K Z trs))} : E2 X Z (.Dict keys values pos) (jDisp trs) := by
  refine pe_imp y ?_
  rintro σ H Q ⟨F, δ, μ, Q0, m, q, k⟩ p hp
  have fp : F p = none := by
    cases e : F p with
    | none => rfl
    | some u => rw [m.wd.sub _ _ e] at hp; cases hp
  have up : μ p = none := by
    cases e : μ p with
    | none => rfl
    | some u =>
      obtain ⟨_, ho, e2, _⟩ := m.wd.mts _ _ e
      rw [e2] at hp; cases hp
  have w0 : Wd X.K F (upd H p (.dK [])) μ := by
    refine ⟨fun b u e => by rw [upd_ne (ne_of_none e fp)]; exact m.wd.sub b u e, fun a u e => ?_⟩
    obtain ⟨x1, ho, x2, x3⟩ := m.wd.mts a u e
    exact ⟨x1, ho, by rw [upd_ne (ne_of_none x2 hp)]; exact x2, x3⟩
  have g0 : Gr F H μ F (upd H p (.dK [])) μ := ⟨Same.refl _, fun b o h1 h2 h3 => ⟨by rw [upd_ne (ne_of_none h1 hp)]; exact h1, h2, h3⟩⟩
  refine low_pairs (Z := Z) (K := X.K) (δ := δ) trs (m.step g0 w0) q ?_
  rintro ps μ1 F1 H1 vs ⟨kvs, hk, hl, n⟩ g1 w1 r1
  obtain ⟨h1, f1, u1⟩ := g1.fr p _ upd_same fp up
  obtain ⟨kws, rfl, rk⟩ := keysOf_rep r1 hk
  refine ⟨h1, kws, rfl, by rw [rk.length]; exact hl, ?_⟩
  have rm : RepK X.K F1 (mergeK [] kws) (mergeD [] kvs) := rk.merge .nil
  -- the dict's own place, told anew
  have back : ∀ b o, H b = some o → b ≠ p := fun b o h z => by rw [z, hp] at h; cases h
  have g01 := g0.trans g1
  rcases n with n | n
  · have ff : Same F1 (upd F1 p (.dK (mergeK [] kws))) := fun b u e => by rw [upd_ne (ne_of_none e f1)]; exact e
    refine k _ μ1 (upd F1 p (.dK (mergeK [] kws))) _ _ n ⟨g01.ff.trans ff, fun b o x1 x2 x3 => ?_⟩ ⟨fun b u e => ?_, fun a u e => ?_⟩ (.dct upd_same (rm.mono ff))
    · obtain ⟨y1, y2, y3⟩ := g01.fr b o x1 x2 x3
      exact ⟨by rw [upd_ne (back b o x1)]; exact y1, by rw [upd_ne (back b o x1)]; exact y2, y3⟩
    · by_cases hb : b = p
      · subst hb; rw [upd_same] at e ⊢; exact e
      · rw [upd_ne hb] at e ⊢; exact w1.sub b u e
    · obtain ⟨y1, ho, y2, y3⟩ := w1.mts a u e
      have ha : a ≠ p := fun z => by rw [z, u1] at e; cases e
      exact ⟨by rw [upd_ne ha]; exact y1, ho, by rw [upd_ne ha]; exact y2, y3.mono ff⟩
  · refine k _ (mup μ1 p (.dct (mergeD [] kvs))) F1 _ _ (n p u1) ⟨g01.ff, fun b o x1 x2 x3 => ?_⟩ ⟨fun b u e => ?_, fun a u e => ?_⟩ .ref
    · obtain ⟨y1, y2, y3⟩ := g01.fr b o x1 x2 x3
      exact ⟨by rw [upd_ne (back b o x1)]; exact y1, y2, by rw [mup_ne (back b o x1)]; exact y3⟩
    · have hb : b ≠ p := fun z => by rw [z, f1] at e; cases e
      rw [upd_ne hb]; exact w1.sub b u e
    · by_cases ha : a = p
      · subst ha
        rw [mup_same] at e; cases e
        exact ⟨f1, _, upd_same, .dct rm⟩
      · rw [mup_ne ha] at e
        obtain ⟨y1, ho, y2, y3⟩ := w1.mts a u e
        exact ⟨y1, ho, by rw [upd_ne ha]; exact y2, y3⟩
def jDnew : TE2 := fun _ μ Q => NewD [] μ Q
theorem jdnew {pos : Pos} : E2 X Z (.Dict [] [] pos) jDnew := by
  refine pe_imp pe_dnewK ?_
  rintro σ H Q ⟨F, δ, μ, Q0, m, q, k⟩ p hp
  exact newD_ok m.wd hp .nil q k

/-! ### a, b = x, y -/
def jPar (is : List Nat) (t : TA2) : TS2 := fun D δ μ => t δ μ fun ds μ1 => ds.length = is.length ∧ D.nx ((is.zip ds).foldl (fun δ p => δ.set p.1 (some p.2)) δ) μ1
theorem js_par {i j : Nat} {x y : Str} {a b : Expr} {t : TA2} {px py pt pos : Pos} {kt k2 pt2} (hij : i ≠ j) (h : PS X (.Assign [.Tuple [.Name x px, .Name y py] kt pt] (.Tuple [a, b] k2 pt2) pos) (tPar i j (lowA X.K Z t))) :
    S2 X Z (.Assign [.Tuple [.Name x px, .Name y py] kt pt] (.Tuple [a, b] k2 pt2) pos) (jPar [i, j] t) := by
  refine ps_imp h ?_
  rintro D σ H ⟨F, δ, μ, D2, m, q, e⟩
  refine ⟨F, δ, μ, _, m, q, ?_⟩
  rintro ds μ1 F1 H1 vs ⟨hl, q1⟩ g1 w1 r1
  obtain ⟨d1, d2, rfl⟩ : ∃ d1 d2, ds = [d1, d2] := by
    match ds, hl with
    | [d1, d2], _ => exact ⟨d1, d2, rfl⟩
  obtain ⟨v1, v2, rfl, ra, rb⟩ := r1.two
  have m1 := m.step g1 w1
  exact ⟨v1, v2, rfl, e.nx _ _ _ _ _ q1 g1 ⟨w1, (m1.env.set ra i).set rb j, m1.z⟩⟩
theorem Reps.three {K : PySem.W.Frag} {F : Hp} {vs : List V} {d e f : D} (r : Reps K F vs [d, e, f]) : ∃ v u w, vs = [v, u, w] ∧ Rep K F v d ∧ Rep K F u e ∧ Rep K F w f := by
  cases r with
  | cons r t =>
    cases t with
    | cons r2 t =>
      cases t with
      | cons r3 t => cases t; exact ⟨_, _, _, rfl, r, r2, r3⟩
theorem js_par3 {i j l : Nat} {x y z : Str} {a b c : Expr} {t : TA2} {px py pz pt pos : Pos} {kt k2 pt2} (h : PS X (.Assign [.Tuple [.Name x px, .Name y py, .Name z pz] kt pt] (.Tuple [a, b, c] k2 pt2) pos) (tPar3 i j l (lowA X.K Z t))) :
    S2 X Z (.Assign [.Tuple [.Name x px, .Name y py, .Name z pz] kt pt] (.Tuple [a, b, c] k2 pt2) pos) (jPar [i, j, l] t) := by
  refine ps_imp h ?_
  rintro D σ H ⟨F, δ, μ, D2, m, q, e⟩
  refine ⟨F, δ, μ, _, m, q, ?_⟩
  rintro ds μ1 F1 H1 vs ⟨hl, q1⟩ g1 w1 r1
  obtain ⟨d1, d2, d3, rfl⟩ : ∃ d1 d2 d3, ds = [d1, d2, d3] := by
    match ds, hl with
    | [d1, d2, d3], _ => exact ⟨d1, d2, d3, rfl⟩
  obtain ⟨v1, v2, v3, rfl, ra, rb, rc⟩ := r1.three
  have m1 := m.step g1 w1
  exact ⟨v1, v2, v3, rfl, e.nx _ _ _ _ _ q1 g1 ⟨w1, ((m1.env.set ra i).set rb j).set rc l, m1.z⟩⟩

/-! ### x += e -/
def jAug (i : Nat) (t : TE2) (r : O2) : TS2 := fun D δ μ => ∃ d, δ[i]? = some (some d) ∧ t δ μ fun e μ1 => r d e μ1 fun z μ2 => D.nx (δ.set i (some z)) μ2
def augI (g : Int → Int → Int) : O2
  | .int i, .int j, μ, Q => Q (.int (g i j)) μ
  | _, _, _, _ => False
theorem js_augI {i : Nat} {x : Str} {e : Expr} {t : TE2} {op : Operator} {pos' pos : Pos} {g : Int → Int → Int} (hN : X.N.Nodup) (hi : X.N[i]? = some x) (hx : Loc X.env.scope x) (he : E2 X Z e t) (ho : PIp X op (ipI g)) (hf : X.fn x = true ∨ X.env.scope.names.lookup x = some .local := by first | exact .inl rfl | exact .inr rfl | assumption) :
    S2 X Z (.AugAssign (.Name x pos') op e pos) (jAug i t (augI g)) := by
  refine ps_imp (ps_aug hN hi hx he ho hf) ?_
  rintro D σ H ⟨F, δ, μ, D2, m, ⟨d, hd, q⟩, e⟩
  obtain ⟨v, hv, rv⟩ := m.env.get hd
  refine ⟨v, hv, F, δ, μ, _, m, q, ?_⟩
  rintro y μ1 F1 H1 u q1 g1 w1 r1
  unfold augI at q1
  split at q1 <;> first | exact False.elim q1 | skip
  cases rv; cases r1
  have m1 := m.step g1 w1
  exact ⟨_, _, rfl, rfl, e.nx _ _ _ _ _ q1 g1 ⟨w1, m1.env.set .int i, m1.z⟩⟩
end
end J

namespace J
open PySem PySem.Spec PyProof.Rows L2
/-! ### the built-ins' names -/
theorem bb_len : bootBuiltins "len" = some (.builtin "len") := by decide +kernel
theorem bb_abs : bootBuiltins "abs" = some (.builtin "abs") := by decide +kernel
theorem bb_max : bootBuiltins "max" = some (.builtin "max") := by decide +kernel
theorem bb_min : bootBuiltins "min" = some (.builtin "min") := by decide +kernel
theorem bb_sum : bootBuiltins "sum" = some (.builtin "sum") := by decide +kernel
theorem bb_all : bootBuiltins "all" = some (.builtin "all") := by decide +kernel
theorem bb_sorted : bootBuiltins "sorted" = some (.builtin "sorted") := by decide +kernel
theorem bb_isinstance : bootBuiltins "isinstance" = some (.builtin "isinstance") := by decide +kernel
theorem bb_int : bootBuiltins "int" = some (.type "int") := by decide +kernel
theorem bb_bool : bootBuiltins "bool" = some (.type "bool") := by decide +kernel
theorem bb_str : bootBuiltins "str" = some (.type "str") := by decide +kernel
theorem bb_list : bootBuiltins "list" = some (.type "list") := by decide +kernel
theorem bb_tuple : bootBuiltins "tuple" = some (.type "tuple") := by decide +kernel
theorem bb_dict : bootBuiltins "dict" = some (.type "dict") := by decide +kernel
end J
namespace J
open PySem PySem.Spec PyProof.Rows L2
def rev1 : O1 := fun x μ Q => ∃ xs, SeqAt μ x xs ∧ NewL xs.reverse μ Q
/-! ### small words for readings -/
theorem w_true {A B : Prop} (h : A) : if true = true then A else B := by rw [if_pos rfl]; exact h
theorem w_false {A B : Prop} (h : B) : if false = true then A else B := by rw [if_neg Bool.false_ne_true]; exact h
theorem w_if {b : Bool} {A B : Prop} (h1 : b = true → A) (h2 : b = false → B) : if b = true then A else B := by
  cases b with
  | true => exact w_true (h1 rfl)
  | false => exact w_false (h2 rfl)
theorem w_ifd {c A B : Prop} [Decidable c] (h1 : c → A) (h2 : ¬ c → B) : if decide c = true then A else B := by
  by_cases h : c
  · rw [decide_eq_true h]; exact w_true (h1 h)
  · rw [decide_eq_false h]; exact w_false (h2 h)
theorem w_ifn {c A B : Prop} [Decidable c] (h1 : ¬ c → A) (h2 : c → B) : if (!decide c) = true then A else B := by
  by_cases h : c
  · rw [decide_eq_true h]; exact w_false (h2 h)
  · rw [decide_eq_false h]; exact w_true (h1 h)
theorem NewL.f {xs : List D} {μ : Mu} {Q : QE} (h : Q (.lst xs) μ) : NewL xs μ Q := .inl h
theorem NewL.m {xs : List D} {μ : Mu} {Q : QE} (h : ∀ p, μ p = none → Q (.ref p) (mup μ p (.lst xs))) : NewL xs μ Q := .inr h
theorem NewD.f {xs : List (Key × D)} {μ : Mu} {Q : QE} (h : Q (.dct xs) μ) : NewD xs μ Q := .inl h
theorem NewD.m {xs : List (Key × D)} {μ : Mu} {Q : QE} (h : ∀ p, μ p = none → Q (.ref p) (mup μ p (.dct xs))) : NewD xs μ Q := .inr h
end J

namespace J
open PySem PySem.Spec PyProof.Rows L2
section
variable {D0 : Ends2} {δ δ' : Sg} {μ : Mu} {Q : QE} {QB : Bool → Mu → Prop} {QA : List D → Mu → Prop} {QS : Sg → Mu → Prop} {d e : D} {i j : Int} {k : Nat}
theorem x_seq {t u : TS2} (h : t { nx := u D0, rt := D0.rt, bk := D0.bk, ct := D0.ct } δ μ) : jSeq t u D0 δ μ := h
theorem x_asg {t : TE2} {g : TG2} (h : t δ μ fun d μ1 => g d δ μ1 D0.nx) : jAsg t g D0 δ μ := h
theorem x_ret {t : TE2} (h : t δ μ D0.rt) : jRet t D0 δ μ := h
theorem x_retN (h : D0.rt .non μ) : jRetN D0 δ μ := h
theorem x_ifs {c : TT2} {t u : TS2} (h : c δ μ fun b μ1 => if b = true then t D0 δ μ1 else u D0 δ μ1) : jIfS c t u D0 δ μ := h
theorem x_next (h : D0.nx δ μ) : jNext D0 δ μ := h
theorem x_brk (h : D0.bk δ μ) : jBreak D0 δ μ := h
theorem x_cont (h : D0.ct δ μ) : jCont D0 δ μ := h
theorem x_drop {t : TE2} (h : t δ μ fun _ μ1 => D0.nx δ μ1) : jDrop t D0 δ μ := h
theorem x_name (e : δ.set k (some d) = δ') (h : QS δ' μ) : kName k d δ μ QS := by
  subst e
  exact h
theorem x_par {is : List Nat} {t : TA2} (h : t δ μ fun ds μ1 => ds.length = is.length ∧ D0.nx ((is.zip ds).foldl (fun δ p => δ.set p.1 (some p.2)) δ) μ1) : jPar is t D0 δ μ := h
theorem x_aug {t : TE2} {r : O2} (hd : δ[k]? = some (some d)) (h : t δ μ fun e μ1 => r d e μ1 fun z μ2 => D0.nx (δ.set k (some z)) μ2) : jAug k t r D0 δ μ := ⟨d, hd, h⟩
theorem x_augI {g : Int → Int → Int} (h : Q (.int (g i j)) μ) : augI g (.int i) (.int j) μ Q := h
theorem x_var (e : δ[k]? = some (some d)) (h : Q d μ) : jVar k δ μ Q := ⟨d, e, h⟩
theorem x_c (h : Q d μ) : jC d δ μ Q := h
theorem x_op {r : O2} {ta tb : TE2} (h : ta δ μ fun x μ1 => tb δ μ1 fun y μ2 => r x y μ2 Q) : jOp r ta tb δ μ Q := h
theorem x_un {r : O1} {ta : TE2} (h : ta δ μ fun x μ1 => r x μ1 Q) : jUn r ta δ μ Q := h
theorem x_test {t : TE2} (h : t δ μ fun x μ1 => ∃ k, x = .bl k ∧ QB k μ1) : jTest t δ μ QB := h
theorem x_blk {b : Bool} {R : Bool → Prop} (h : R b) : ∃ k, D.bl b = .bl k ∧ R k := ⟨b, rfl, h⟩
theorem x_chain {r r' : O2} {ta tb tc : TE2} (h : ta δ μ fun x μ1 => tb δ μ1 fun y μ2 => r x y μ2 fun z μ3 => ∃ k, z = .bl k ∧ (if k = true then tc δ μ3 fun w μ4 => r' y w μ4 Q else Q (.bl false) μ3)) : jChain r r' ta tb tc δ μ Q := h
theorem x_and {t u : TT2} (h : t δ μ fun c μ1 => if c = true then u δ μ1 QB else QB false μ1) : jAnd t u δ μ QB := h
theorem x_or {t u : TT2} (h : t δ μ fun c μ1 => if c = true then QB true μ1 else u δ μ1 QB) : jOr t u δ μ QB := h
theorem x_not {t : TT2} (h : t δ μ fun c μ1 => QB (!c) μ1) : jNot t δ μ QB := h
theorem x_andV {ta tb : TE2} (h : ta δ μ fun x μ1 => ∃ c, x = .bl c ∧ if c = true then tb δ μ1 Q else Q (.bl false) μ1) : jAndV ta tb δ μ Q := h
theorem x_orV {ta tb : TE2} (h : ta δ μ fun x μ1 => ∃ c, x = .bl c ∧ if c = true then Q (.bl true) μ1 else tb δ μ1 Q) : jOrV ta tb δ μ Q := h
theorem x_notV {ta : TE2} (h : ta δ μ fun x μ1 => ∃ c, x = .bl c ∧ Q (.bl (!c)) μ1) : jNotV ta δ μ Q := h
theorem x_if {t : TT2} {ta tb : TE2} (h : t δ μ fun c μ1 => if c = true then ta δ μ1 Q else tb δ μ1 Q) : jIf t ta tb δ μ Q := h
theorem x_nil (h : QA [] μ) : jNil δ μ QA := h
theorem x_cons {ta : TE2} {tr : TA2} (h : ta δ μ fun x μ1 => tr δ μ1 fun xs μ2 => QA (x :: xs) μ2) : jCons ta tr δ μ QA := h
theorem x_tup {t : TA2} (h : t δ μ fun xs μ1 => xs.length ≤ sizeLine ∧ Q (.tup xs) μ1) : jTup t δ μ Q := h
theorem x_lst {t : TA2} (h : t δ μ fun xs μ1 => xs.length ≤ sizeLine ∧ NewL xs μ1 Q) : jLst t δ μ Q := h
theorem x_cb {r : OA} {t : TA2} (h : t δ μ fun ds μ1 => r ds μ1 Q) : jCB r t δ μ Q := h
theorem x_call {sp : Sp2} {dds : List D} {ex : Ex2} {t : TA2} (h : t δ μ fun ds μ1 => sp (ds ++ dds) μ1 (Upd Q) ex) : jCall sp dds ex t δ μ Q := h
theorem x_bm0 {T : String} {r : OM} {t : TE2} (h : t δ μ fun x μ1 => TyM T x μ1 ∧ r x [] μ1 Q) : jBM0 T r t δ μ Q := h
theorem x_bm {T : String} {r : OM} {to : TE2} {t : TA2} (h : to δ μ fun x μ1 => TyM T x μ1 ∧ t δ μ1 fun ds μ2 => r x ds μ2 Q) : jBM T r to t δ μ Q := h
theorem x_sl {te : TE2} {tl th : TO2} (h : te δ μ fun x μ1 => tl δ μ1 fun l μ2 => th δ μ2 fun u μ3 => sl2 x l u μ3 Q) : jSl te tl th δ μ Q := h
theorem x_nopart {QO : Option Int → Mu → Prop} (h : QO none μ) : jNoPart δ μ QO := h
theorem x_part {QO : Option Int → Mu → Prop} {te : TE2} (h : te δ μ fun x μ1 => ∃ i, x = .int i ∧ QO (some i) μ1) : jPart te δ μ QO := h
theorem x_parti {R : Int → Prop} (h : R i) : ∃ k, D.int i = .int k ∧ R k := ⟨i, rfl, h⟩
theorem x_sub {to ti : TE2} (h : to δ μ fun o μ1 => ti δ μ1 fun i μ2 => set2 o i d μ2 fun μ3 => QS δ μ3) : kSub to ti d δ μ QS := h
theorem x_for {ti : TI2} {g : TG2} {tb : TS2} (h : ti δ μ fun items G μ1 => jLoop g tb G D0 items δ μ1) : jFor ti g tb D0 δ μ := h
theorem x_lc {ti : TI2} {g : TG2} {tt : TT2} {te : TE2} {vs : List Nat} (h : ti δ μ fun items G μ1 => jLcl g tt te (wipeD δ vs) G (fun acc μ' => NewL acc μ' Q) items [] μ1) : jLc ti g tt te vs δ μ Q := h
theorem x_yes (h : QB true μ) : jYes δ μ QB := h
theorem x_disp {trs : List (TE2 × TE2)} (h : jPairs trs δ μ fun ps μ1 => ∃ kvs, keysOf ps = some kvs ∧ kvs.length ≤ 15 ∧ NewD (mergeD [] kvs) μ1 Q) : jDisp trs δ μ Q := h
theorem x_pairs0 {QP : List (D × D) → Mu → Prop} (h : QP [] μ) : jPairs [] δ μ QP := h
theorem x_pairs {QP : List (D × D) → Mu → Prop} {tk tv : TE2} {r : List (TE2 × TE2)} (h : tk δ μ fun x μ1 => tv δ μ1 fun y μ2 => jPairs r δ μ2 fun ps μ3 => QP ((x, y) :: ps) μ3) : jPairs ((tk, tv) :: r) δ μ QP := h
theorem x_dnew (h : NewD [] μ Q) : jDnew δ μ Q := h
/-! ### operations -/
theorem x_add (h : Q (.int (i + j)) μ) : add2 (.int i) (.int j) μ Q := h
theorem x_addS {x y : Str} (hl : x.length + y.length ≤ sizeLine) (h : Q (.str (x ++ y)) μ) : add2 (.str x) (.str y) μ Q := ⟨hl, h⟩
theorem x_addT {xs ys : List D} (hl : xs.length + ys.length ≤ sizeLine) (h : Q (.tup (xs ++ ys)) μ) : add2 (.tup xs) (.tup ys) μ Q := ⟨hl, h⟩
theorem x_addL {xs ys : List D} (hl : xs.length + ys.length ≤ sizeLine) (h : NewL (xs ++ ys) μ Q) : add2 (.lst xs) (.lst ys) μ Q := ⟨xs, ys, .f, .f, hl, h⟩
theorem x_addM {a : Addr} {xs ys : List D} (ha : μ a = some (.lst xs)) (hl : xs.length + ys.length ≤ sizeLine) (h : NewL (xs ++ ys) μ Q) : add2 (.ref a) (.lst ys) μ Q := ⟨xs, ys, .m ha, .f, hl, h⟩
theorem x_subI (h : Q (.int (i - j)) μ) : sub2 (.int i) (.int j) μ Q := h
theorem x_mul (hc : CMul i j ∨ CMulW i j) (h : Q (.int (i * j)) μ) : mul2 (.int i) (.int j) μ Q := ⟨hc, h⟩
theorem x_int2 {C : Int → Int → Prop} {g : Int → Int → D} (hc : C i j) (h : Q (g i j) μ) : int2 C g (.int i) (.int j) μ Q := ⟨hc, h⟩
theorem x_mulR (hj : -(2 ^ 64) < j ∧ j < 2 ^ 64) (h : Q (.int (i * j)) μ) : mul2 (.int i) (.int j) μ Q := ⟨.inl (.inr hj), h⟩
theorem x_mulL (hj : -(2 ^ 64) < i ∧ i < 2 ^ 64) (h : Q (.int (i * j)) μ) : mul2 (.int i) (.int j) μ Q := ⟨.inl (.inl hj), h⟩
theorem x_mod (hj : 0 < j) (h : Q (.int (i % j)) μ) : mod2 (.int i) (.int j) μ Q := ⟨hj, h⟩
theorem x_fdiv (hj : 0 < j) (hb : j.natAbs.log2 < 9000) (h : Q (.int (i / j)) μ) : fdiv2 (.int i) (.int j) μ Q := ⟨⟨hj, hb⟩, h⟩
theorem x_shr (hj : 0 ≤ j) (h : Q (.int (i / 2 ^ j.toNat)) μ) : shr2 (.int i) (.int j) μ Q := ⟨hj, h⟩
theorem x_pow (hj : 0 ≤ j ∧ j ≤ 1000000 ∧ i.natAbs < 2 ^ 64) (h : Q (.int (i ^ j.toNat)) μ) : pow2 (.int i) (.int j) μ Q := ⟨hj, h⟩
theorem atI_some {xs : List D} {k : Nat} {d : D} (h : xs[k]? = some d) : atI xs (k : Int) = some d := atI_nat h
theorem ixN_nat {n k : Nat} (h : k < n) : ixN n (k : Int) = some k := by
  unfold ixN
  rw [if_pos (by omega), if_pos (by omega)]
  simp
theorem x_neg (h : Q (.int (-i)) μ) : neg1 (.int i) μ Q := h
theorem x_cmp {ci : Int → Int → Bool} {cs : Str → Str → Bool} (h : Q (.bl (ci i j)) μ) : cmp2 ci cs (.int i) (.int j) μ Q := h
theorem x_cmpS {ci : Int → Int → Bool} {cs : Str → Str → Bool} {x y : Str} (h : Q (.bl (cs x y)) μ) : cmp2 ci cs (.str x) (.str y) μ Q := h
theorem x_eqI (h : Q (.bl (decide (i = j))) μ) : eq2 (.int i) (.int j) μ Q := h
theorem x_eqS {x y : Str} (h : Q (.bl (decide (x = y))) μ) : eq2 (.str x) (.str y) μ Q := h
theorem x_eqB {x y : Bool} (h : Q (.bl (decide (x = y))) μ) : eq2 (.bl x) (.bl y) μ Q := h
theorem x_neI (h : Q (.bl (!decide (i = j))) μ) : ne2 (.int i) (.int j) μ Q := h
theorem x_neS {x y : Str} (h : Q (.bl (!decide (x = y))) μ) : ne2 (.str x) (.str y) μ Q := h
theorem x_neB {x y : Bool} (h : Q (.bl (!decide (x = y))) μ) : ne2 (.bl x) (.bl y) μ Q := h
theorem x_ixL {xs : List D} (e : atI xs i = some d) (h : Q d μ) : ix2 (.lst xs) (.int i) μ Q := .inl ⟨xs, i, d, .inl .f, rfl, e, h⟩
theorem x_ixR {xs : List D} (e : atI xs i = some d) (h : Q d μ) : ix2 (.rol xs) (.int i) μ Q := .inl ⟨xs, i, d, .inl .r, rfl, e, h⟩
theorem x_ixT {xs : List D} (e : atI xs i = some d) (h : Q d μ) : ix2 (.tup xs) (.int i) μ Q := .inl ⟨xs, i, d, .inr rfl, rfl, e, h⟩
theorem x_ixM {a : Addr} {xs : List D} (ha : μ a = some (.lst xs)) (e : atI xs i = some d) (h : Q d μ) : ix2 (.ref a) (.int i) μ Q := .inl ⟨xs, i, d, .inl (.m ha), rfl, e, h⟩
theorem x_ixS {z : Str} {c : Nat} (hl : z.length ≤ sizeLine) (e : atI z.cps.toList i = some c) (h : Q (.str ⟨#[c]⟩) μ) : ix2 (.str z) (.int i) μ Q := .inr (.inl ⟨z, i, c, rfl, rfl, hl, e, h⟩)
theorem x_ixD {kvs : List (Key × D)} {x : D} {kk : Key} (e1 : keyD x = some kk) (e : valD kvs kk = some d) (h : Q d μ) : ix2 (.dct kvs) x μ Q := .inr (.inr ⟨kvs, kk, d, .f, e1, e, h⟩)
theorem x_ixDM {a : Addr} {kvs : List (Key × D)} {x : D} {kk : Key} (ha : μ a = some (.dct kvs)) (e1 : keyD x = some kk) (e : valD kvs kk = some d) (h : Q d μ) : ix2 (.ref a) x μ Q := .inr (.inr ⟨kvs, kk, d, .m ha, e1, e, h⟩)
theorem x_setL {a : Addr} {xs : List D} {n : Nat} {QM : Mu → Prop} (ha : μ a = some (.lst xs)) (e1 : ixN xs.length i = some n) (h : QM (mup μ a (.lst (xs.set n d)))) : set2 (.ref a) (.int i) d μ QM := .inl ⟨a, xs, i, n, rfl, rfl, ha, e1, h⟩
theorem x_setD {a : Addr} {kvs : List (Key × D)} {x : D} {kk : Key} {QM : Mu → Prop} (ha : μ a = some (.dct kvs)) (e1 : keyD x = some kk) (hl : kvs.length < sizeLine) (h : QM (mup μ a (.dct (putKD kvs kk d)))) : set2 (.ref a) x d μ QM := .inr ⟨a, kvs, kk, rfl, e1, ha, hl, h⟩
theorem x_lenL {xs : List D} (h : Q (.int xs.length) μ) : len1 [.lst xs] μ Q := h
theorem x_lenR {xs : List D} (h : Q (.int xs.length) μ) : len1 [.rol xs] μ Q := h
theorem x_lenT {xs : List D} (h : Q (.int xs.length) μ) : len1 [.tup xs] μ Q := h
theorem x_lenD {xs : List (Key × D)} (h : Q (.int xs.length) μ) : len1 [.dct xs] μ Q := h
theorem x_lenS {z : Str} (hl : z.length ≤ sizeLine) (h : Q (.int z.length) μ) : len1 [.str z] μ Q := ⟨hl, h⟩
theorem x_lenM {a : Addr} {xs : List D} (ha : μ a = some (.lst xs)) (h : Q (.int xs.length) μ) : len1 [.ref a] μ Q := .inl ⟨xs, ha, h⟩
theorem x_int (h : Q (.int i) μ) : int1 [.int i] μ Q := h
theorem x_intB {b : Bool} (h : Q (.int (if b then 1 else 0)) μ) : int1 [.bl b] μ Q := h
theorem x_listL {xs : List D} (h : NewL xs μ Q) : list1 [.lst xs] μ Q := h
theorem x_listR {xs : List D} (h : NewL xs μ Q) : list1 [.rol xs] μ Q := h
theorem x_listT {xs : List D} (h : NewL xs μ Q) : list1 [.tup xs] μ Q := h
theorem x_listM {a : Addr} {xs : List D} (ha : μ a = some (.lst xs)) (h : NewL xs μ Q) : list1 [.ref a] μ Q := .inl ⟨xs, ha, h⟩
theorem x_listD {xs : List (Key × D)} (h : NewL (xs.map fun kv => keyV kv.1) μ Q) : list1 [.dct xs] μ Q := h
theorem x_listDM {a : Addr} {xs : List (Key × D)} (ha : μ a = some (.dct xs)) (h : NewL (xs.map fun kv => keyV kv.1) μ Q) : list1 [.ref a] μ Q := .inr ⟨xs, ha, h⟩
theorem x_tupleL {xs : List D} (h : Q (.tup xs) μ) : tuple1 [.lst xs] μ Q := h
theorem x_tupleT {xs : List D} (h : Q (.tup xs) μ) : tuple1 [.tup xs] μ Q := h
theorem x_tupleM {a : Addr} {xs : List D} (ha : μ a = some (.lst xs)) (h : Q (.tup xs) μ) : tuple1 [.ref a] μ Q := ⟨xs, ha, h⟩
theorem x_abs (h : Q (.int (if i < 0 then -i else i)) μ) : abs1 [.int i] μ Q := h
theorem x_max (h : Q (.int (if j > i then j else i)) μ) : max1 [.int i, .int j] μ Q := h
theorem x_min (h : Q (.int (if j < i then j else i)) μ) : min1 [.int i, .int j] μ Q := h
theorem x_isi {T t : Ty} {n : String} (e : n = T.nm) (e2 : tyD μ d = some t) (h : Q (.bl (isTy t T)) μ) : isi T [d, .ty n] μ Q := ⟨e, t, e2, h⟩
theorem x_append {a : Addr} {xs : List D} (ha : μ a = some (.lst xs)) (hl : xs.length < sizeLine) (h : Q .non (mup μ a (.lst (xs ++ [d])))) : append1 (.ref a) [d] μ Q := ⟨xs, ha, hl, h⟩
theorem x_pop {a : Addr} {xs : List D} (ha : μ a = some (.lst (xs ++ [d]))) (h : Q d (mup μ a (.lst xs))) : pop1 (.ref a) [] μ Q := ⟨xs ++ [d], d, ha, by simp, by rw [List.dropLast_concat]; exact h⟩
theorem x_tyM {a : Addr} {xs : List D} {A : Prop} (ha : μ a = some (.lst xs)) (h : A) : TyM "list" (.ref a) μ ∧ A := ⟨.inl ⟨rfl, xs, ha⟩, h⟩
theorem x_tyMD {a : Addr} {xs : List (Key × D)} {A : Prop} (ha : μ a = some (.dct xs)) (h : A) : TyM "dict" (.ref a) μ ∧ A := ⟨.inr ⟨rfl, xs, ha⟩, h⟩
theorem x_isB {b c : Bool} (h : Q (.bl (decide (b = c))) μ) : is2 false (.bl b) (.bl c) μ Q := by
  show Q (.bl (false ^^ decide (b = c))) μ
  rw [Bool.false_xor]; exact h
theorem x_isnB {b c : Bool} (h : Q (.bl (!decide (b = c))) μ) : is2 true (.bl b) (.bl c) μ Q := by
  show Q (.bl (true ^^ decide (b = c))) μ
  rw [Bool.true_xor]; exact h
theorem x_iL {t : TE2} {R : List D → (Mu → Prop) → Mu → Prop} (h : t δ μ fun x μ1 => iSeq' x μ1 R) : iL t δ μ R := h
theorem x_iLf {xs : List D} {R : List D → (Mu → Prop) → Mu → Prop} (h : R xs (fun _ => True) μ) : iSeq' (.lst xs) μ R := h
theorem x_iLr {xs : List D} {R : List D → (Mu → Prop) → Mu → Prop} (h : R xs (fun _ => True) μ) : iSeq' (.rol xs) μ R := h
theorem x_iT {t : TE2} {R : List D → (Mu → Prop) → Mu → Prop} (h : t δ μ fun x μ1 => ∃ xs, x = .tup xs ∧ R xs (fun _ => True) μ1) : iT t δ μ R := h
theorem x_iTf {xs : List D} {R : List D → Prop} (h : R xs) : ∃ ys, D.tup xs = .tup ys ∧ R ys := ⟨xs, rfl, h⟩
theorem x_iR1 {t : TA2} {R : List D → (Mu → Prop) → Mu → Prop} (h : t δ μ fun ds μ1 => ∃ j, ds = [.int j] ∧ rngOk j ∧ R (rngD 0 j.toNat) (fun _ => True) μ1) : iR1 t δ μ R := h
theorem x_iR2 {t : TA2} {R : List D → (Mu → Prop) → Mu → Prop} (h : t δ μ fun ds μ1 => ∃ i j, ds = [.int i, .int j] ∧ rngOk i ∧ rngOk j ∧ R (rngD i (j - i).toNat) (fun _ => True) μ1) : iR2 t δ μ R := h
/-- a loop by what holds between its turns -/
theorem loop_inv {g : TG2} {tb : TS2} {G : Mu → Prop} {D1 : Ends2} (P : List D → Sg → Mu → Prop) (hG : ∀ r δ μ, P r δ μ → G μ)
    (hs : ∀ x r δ μ, P (x :: r) δ μ → ∀ QN : Sg → Mu → Prop, (∀ δ' μ', P r δ' μ' → QN δ' μ') → g x δ μ fun δ' μ' => tb { nx := QN, rt := D1.rt, bk := D1.nx, ct := QN } δ' μ')
    (hd : ∀ δ μ, P [] δ μ → D1.nx δ μ) : ∀ (xs : List D) (δ : Sg) (μ : Mu), P xs δ μ → jLoop g tb G D1 xs δ μ
  | [], δ, μ, p => ⟨hG _ _ _ p, hd δ μ p⟩
  | x :: r, δ, μ, p => ⟨hG _ _ _ p, hs x r δ μ p _ fun δ' μ' p' => loop_inv P hG hs hd r δ' μ' p'⟩
/-- a comprehension by what holds between its turns -/
theorem lc_inv {g : TG2} {tt : TT2} {te : TE2} {δ0 : Sg} {G : Mu → Prop} {k : List D → Mu → Prop} (P : List D → List D → Mu → Prop) (hG : ∀ r acc μ, P r acc μ → G μ)
    (hs : ∀ x r acc μ, P (x :: r) acc μ → ∀ N : List D → Mu → Prop, (∀ acc' μ', P r acc' μ' → N acc' μ') → g x δ0 μ fun δ1 μ1 => tt δ1 μ1 fun b μ2 => if b = true then te δ1 μ2 fun y μ3 => acc.length < sizeLine ∧ N (acc ++ [y]) μ3 else N acc μ2)
    (hd : ∀ acc μ, P [] acc μ → k acc μ) : ∀ (xs acc : List D) (μ : Mu), P xs acc μ → jLcl g tt te δ0 G k xs acc μ
  | [], acc, μ, p => ⟨hG _ _ _ p, hd acc μ p⟩
  | x :: r, acc, μ, p => ⟨hG _ _ _ p, hs x r acc μ p (fun acc' μ' => jLcl g tt te δ0 G k r acc' μ') fun acc' μ' p' => lc_inv P hG hs hd r acc' μ' p'⟩
/-- whose turns change nothing: f tells each item's element, if there is one -/
theorem lc_fm {g : TG2} {tt : TT2} {te : TE2} {δ0 : Sg} {k : List D → Mu → Prop} {μ : Mu} (f : D → Option D) (xs : List D) (hl : xs.length < sizeLine)
    (hs : ∀ x ∈ xs, ∀ (Y : D → Mu → Prop) (Nn : Mu → Prop), (∀ y, f x = some y → Y y μ) → (f x = none → Nn μ) → g x δ0 μ fun δ1 μ1 => tt δ1 μ1 fun b μ2 => if b = true then te δ1 μ2 Y else Nn μ2)
    (hd : k (xs.filterMap f) μ) : jLcl g tt te δ0 (fun _ => True) k xs [] μ := by
  refine lc_inv (fun r acc μ' => μ' = μ ∧ acc ++ r.filterMap f = xs.filterMap f ∧ acc.length + r.length ≤ xs.length ∧ ∀ x ∈ r, x ∈ xs) (fun _ _ _ _ => trivial) ?_ ?_ xs [] μ ⟨rfl, rfl, by simp, fun _ h => h⟩
  · rintro x r acc μ' ⟨rfl, he, hz, hm⟩ N hN
    refine hs x (hm x (List.mem_cons_self ..)) _ _ (fun y hy => ⟨?_, hN _ _ ⟨rfl, ?_, ?_, ?_⟩⟩) (fun hn => hN _ _ ⟨rfl, ?_, ?_, ?_⟩)
    · simp only [List.length_cons] at hz; omega
    · rw [List.filterMap_cons, hy] at he
      rw [← he]
      simp
    · simp only [List.length_cons, List.length_append, List.length_nil] at hz ⊢; omega
    · exact fun z hz' => hm z (List.mem_cons_of_mem _ hz')
    · rw [List.filterMap_cons, hn] at he
      exact he
    · simp only [List.length_cons] at hz ⊢; omega
    · exact fun z hz' => hm z (List.mem_cons_of_mem _ hz')
  · rintro acc μ' ⟨rfl, he, _, _⟩
    have e2 : acc = xs.filterMap f := by simpa using he
    rw [e2]
    exact hd
/-- .. one element an item -/
theorem lc_map {g : TG2} {te : TE2} {δ0 : Sg} {k : List D → Mu → Prop} {μ : Mu} (f : D → D) (xs : List D) (hl : xs.length < sizeLine)
    (hs : ∀ x ∈ xs, ∀ Y : D → Mu → Prop, Y (f x) μ → g x δ0 μ fun δ1 μ1 => te δ1 μ1 Y) (hd : k (xs.map f) μ) : jLcl g jYes te δ0 (fun _ => True) k xs [] μ := by
  refine lc_inv (fun r acc μ' => μ' = μ ∧ acc ++ r.map f = xs.map f ∧ acc.length + r.length ≤ xs.length ∧ ∀ x ∈ r, x ∈ xs) (fun _ _ _ _ => trivial) ?_ ?_ xs [] μ ⟨rfl, rfl, by simp, fun _ h => h⟩
  · rintro x r acc μ' ⟨rfl, he, hz, hm⟩ N hN
    have h := hs x (hm x (List.mem_cons_self ..)) (fun y μ3 => acc.length < sizeLine ∧ N (acc ++ [y]) μ3) ⟨by simp only [List.length_cons] at hz; omega, hN _ _ ⟨rfl, by rw [← he]; simp, by simp only [List.length_cons, List.length_append, List.length_nil] at hz ⊢; omega, fun z hz' => hm z (List.mem_cons_of_mem _ hz')⟩⟩
    exact h
  · rintro acc μ' ⟨rfl, he, _, _⟩
    have e2 : acc = xs.map f := by simpa using he
    rw [e2]
    exact hd
end
end J

namespace J
open PySem PySem.Spec PyProof.Rows L2
/-! ### the head's hook, with a check of one's own; the law's start -/
abbrev AlJ : Type := He.AlD × Bool
def obsJ (n : Nat) (fa : List He.Fa) (fn : List He.DefD) (ex : PySem.W.Frag → Bool) (g : Addr → Option Obj) : AlJ := (He.obsDG n fa fn g, ex (He.frG g (He.asD g n)))
def hookJ (n : Nat) (fa : List He.Fa) (fn : List He.DefD) (ex : PySem.W.Frag → Bool) : PySem.W.Hook where
  α := AlJ
  obs := fun s => obsJ n fa fn ex s.heap.get?
  val := fun _ => (He.valD fn, true)
  says := fun _ h => ∃ K : PySem.W.Frag, K.In h ∧ He.SaysD fa fn K ∧ ex K = true
  of := fun _ _ e => ⟨_, He.frG_in, congrArg (fun z : AlJ => z.1) e, congrArg (fun z : AlJ => z.2) e⟩
  keeps := fun _ _ _ ⟨K, hK, c⟩ k => ⟨K, PySem.W.Frag.In.keeps hK k, c⟩
theorem obsJ_eq {n : Nat} {fa : List He.Fa} {fn : List He.DefD} {ex : PySem.W.Frag → Bool} {g : Addr → Option Obj} {s : Shared} (h : ∀ a, g a = s.heap.get? a) : obsJ n fa fn ex g = (hookJ n fa fn ex).obs s := by
  have e : g = s.heap.get? := funext h
  rw [e] <;> rfl
theorem never {P : Program} {w : World} {K : PySem.W.Frag} {mg : Str → Option Value} {base : Heap} {CX : CXT} {k : Nat} {f : Addr} {fd : FuncData} {ps : List Str} : FnOk P w K mg base CX k f fd ps (lowSp K fun _ _ _ _ => False) :=
  ⟨fun _ _ _ _ ⟨_, _, _, _, _, _, _, q, _⟩ => q.elim, fun _ _ _ _ _ _ _ _ _ _ _ _ _ ⟨_, _, _, _, _, _, _, q, _⟩ => q.elim⟩
def Start (sp : Sp2) : Prop := ∀ (ns : List Int) (μ : Mu) (Q : QE), ns.length ≤ 63 → (∀ μ', Q (.bl true) μ') → sp [.rol (ns.map D.int)] μ Q noEx
theorem ints_rep {K : PySem.W.Frag} {F : Hp} : ∀ ns : List Int, Reps K F (ns.map V.int) (ns.map D.int)
  | [] => .nil
  | _ :: r => .cons .int (ints_rep r)
theorem low_start {K : PySem.W.Frag} {sp : Sp2} (st : Start sp) (H : Hp) (a : Addr) (ns : List Int) (hl : ns.length ≤ 63) (hS : SqL K H a (ns.map V.int)) : lowSp K sp [.ref a] H (fun v _ => v = .bl true) fun _ _ _ => False := by
  refine ⟨H, fun _ => none, [.rol (ns.map D.int)], fun d _ => d = .bl true, noEx, ⟨Same.refl _, fun _ _ h => nomatch h⟩, .cons (.rol hS (ints_rep ns)) .nil, st ns _ _ hl fun _ => rfl, ?_, ZE.none⟩
  intro d μ' F' H' v hd _ _ r
  subst hd
  cases r
  rfl
theorem glo_tup {K : PySem.W.Frag} {h : Heap} {mg : Str → Option Value} {x : Str} {vs : List He.Dv} {ds : List D} (X : K.In h) (G : h.Ns mainGlobals mg) (c : (He.Fa.glo x).ok K = true) (t : He.tupB K x vs = true) (r : ∀ F, Reps K F (vs.map (He.Dv.v K)) ds) :
    ∃ (v : V) (u : Value), mg x = some u ∧ RelV v u ∧ ∀ F, Rep K F v (.tup ds) := ⟨.ref (He.ga K x), .ref (He.ga K x), He.glo_ok X G c, by constructor, fun F => .tup (He.tupB_ok t F) (r F)⟩
theorem glo_int {K : PySem.W.Frag} {h : Heap} {mg : Str → Option Value} {x : Str} {i : Int} (X : K.In h) (G : h.Ns mainGlobals mg) (c : (He.Fa.int x i).ok K = true) : ∃ (v : V) (u : Value), mg x = some u ∧ RelV v u ∧ ∀ F, Rep K F v (.int i) := by
  obtain ⟨t, e⟩ := He.int_ok X G c
  exact ⟨.int i, _, e, ⟨t, rfl⟩, fun _ => .int⟩
theorem glo_str {K : PySem.W.Frag} {h : Heap} {mg : Str → Option Value} {x z : Str} (X : K.In h) (G : h.Ns mainGlobals mg) (c : (He.Fa.str x z).ok K = true) : ∃ (v : V) (u : Value), mg x = some u ∧ RelV v u ∧ ∀ F, Rep K F v (.str z) := by
  obtain ⟨t, e⟩ := He.str_ok X G c
  exact ⟨.str z, _, e, ⟨t, rfl⟩, fun _ => .str⟩
end J

namespace J
open PySem PySem.Spec PyProof.Rows L2
section
variable {D0 : Ends2} {δ δ' : Sg} {μ : Mu} {Q : QE} {d e x y : D} {i j : Int} {k : Nat} {kvs : List (Key × D)} {kk : Key}
theorem x_ixDA (ha : DctAt μ x kvs) (e1 : keyD y = some kk) (e : valD kvs kk = some d) (h : Q d μ) : ix2 x y μ Q := .inr (.inr ⟨kvs, kk, d, ha, e1, e, h⟩)
theorem x_listDA (ha : DctAt μ x kvs) (h : NewL (kvs.map fun kv => keyV kv.1) μ Q) : list1 [x] μ Q := by
  rcases ha with rfl | ⟨a, rfl, ha⟩
  · exact h
  · exact .inr ⟨_, ha, h⟩
theorem x_dictDA (ha : DctAt μ x kvs) (h : NewD kvs μ Q) : dict1 [x] μ Q := ⟨kvs, ha, h⟩
theorem x_lenDA (ha : DctAt μ x kvs) (h : Q (.int kvs.length) μ) : len1 [x] μ Q := by
  rcases ha with rfl | ⟨a, rfl, ha⟩
  · exact h
  · exact .inr ⟨_, ha, h⟩
theorem x_inL {xs : List D} (h1 : x.fl = true) (h2 : xs.all D.fl = true) (h : Q (.bl (inF x xs)) μ) : in2 false x (.lst xs) μ Q := .inl ⟨xs, .inl .f, h1, h2, by rw [Bool.false_xor]; exact h⟩
theorem x_ninL {xs : List D} (h1 : x.fl = true) (h2 : xs.all D.fl = true) (h : Q (.bl (!inF x xs)) μ) : in2 true x (.lst xs) μ Q := .inl ⟨xs, .inl .f, h1, h2, by rw [Bool.true_xor]; exact h⟩
theorem fl_bls (bs : List Bool) : (bs.map D.bl).all D.fl = true := by simp [List.all_eq_true, D.fl]
theorem inF_bls (bs : List Bool) : inF (.bl false) (bs.map D.bl) = !bs.all id := by
  induction bs with
  | nil => rfl
  | cons b r ih =>
    have e : inF (.bl false) ((b :: r).map D.bl) = ((b == false) || inF (.bl false) (r.map D.bl)) := rfl
    rw [e, ih]
    cases b <;> simp
theorem x_inB {bs : List Bool} (h : Q (.bl (!bs.all id)) μ) : in2 false (.bl false) (.lst (bs.map D.bl)) μ Q := x_inL rfl (fl_bls bs) (by rw [inF_bls]; exact h)
theorem x_ninB {bs : List Bool} (h : Q (.bl (bs.all id)) μ) : in2 true (.bl false) (.lst (bs.map D.bl)) μ Q := x_ninL rfl (fl_bls bs) (by rw [inF_bls, Bool.not_not]; exact h)
theorem x_maxL {ns : List Int} (h0 : 0 < ns.length) (h : ∀ m, m ∈ ns → (∀ y, y ∈ ns → y ≤ m) → Q (.int m) μ) : max1 [.lst (ns.map D.int)] μ Q := ⟨ns, .f, h0, h⟩
theorem x_minL {ns : List Int} (h0 : 0 < ns.length) (h : ∀ m, m ∈ ns → (∀ y, y ∈ ns → m ≤ y) → Q (.int m) μ) : min1 [.lst (ns.map D.int)] μ Q := ⟨ns, .f, h0, h⟩
/-! ### sorted lists of words are told by their items -/
def leS (a b : Str) : Prop := a.cps.toList ≤ b.cps.toList
theorem leS_of {a b : Str} (h : ltCps b.cps.toList a.cps.toList = false) : leS a b := by
  rw [ltCps_eq, decide_eq_false_iff_not] at h
  exact List.not_lt.mp h
theorem leS_anti {a b : Str} (h : leS a b) (h2 : leS b a) : a = b := by
  have e := List.le_antisymm h h2
  obtain ⟨⟨a⟩⟩ := a
  obtain ⟨⟨b⟩⟩ := b
  simp only at e
  rw [e]
theorem leS_trans {a b c : Str} (h : leS a b) (h2 : leS b c) : leS a c := List.le_trans h h2
theorem risingS_pw : ∀ (l : List Str) (p : Str), risingS p l = true → (p :: l).Pairwise leS
  | [], p, _ => by simp
  | x :: r, p, h => by
    simp only [risingS, Bool.and_eq_true, Bool.not_eq_true'] at h
    have ih := risingS_pw r x h.2
    refine List.pairwise_cons.mpr ⟨fun y hy => ?_, ih⟩
    rcases List.mem_cons.mp hy with rfl | hm
    · exact leS_of h.1
    · exact leS_trans (leS_of h.1) ((List.pairwise_cons.mp ih).1 y hm)
theorem sortedS_pw : ∀ l : List Str, sortedS l = true → l.Pairwise leS
  | [], _ => .nil
  | x :: r, h => risingS_pw r x h
theorem sorted_one {xs ys : List Str} (hp : ys.Perm xs) (h : sortedS ys = true) (h2 : sortedS xs = true) : ys = xs :=
  hp.eq_of_pairwise (fun _ _ _ _ a b => leS_anti a b) (sortedS_pw ys h) (sortedS_pw xs h2)
theorem x_sortedS {ss xs : List Str} (hl : ss.length < 64) (hp : xs.Perm ss) (hs : sortedS xs = true) (h : NewL (xs.map D.str) μ Q) : sorted1 [.lst (ss.map D.str)] μ Q :=
  .inr ⟨ss, .f, hl, fun ys h1 h2 => by rw [sorted_one (h1.trans hp.symm) h2 hs]; exact h⟩
theorem sortZ_one {xs ys : List Int} (hp : ys.Perm xs) (h : ys.Pairwise (· ≤ ·)) (h2 : xs.Pairwise (· ≤ ·)) : ys = xs :=
  hp.eq_of_pairwise (fun _ _ _ _ a b => Int.le_antisymm a b) h h2
theorem x_sortedZ {ss xs : List Int} (hp : xs.Perm ss) (hs : xs.Pairwise (· ≤ ·)) (h : NewL (xs.map D.int) μ Q) : sorted1 [.lst (ss.map D.int)] μ Q :=
  .inl ⟨ss, .f, fun ys h1 h2 => by rw [sortZ_one (h1.trans hp.symm) h2 hs]; exact h⟩
/-! ### tables by their keys -/
theorem valD_put_same {v : D} : valD (putKD kvs kk v) kk = some v := by
  unfold putKD
  induction kvs with
  | nil => simp [valD]
  | cons p r ih =>
    by_cases h : p.1 = kk
    · simp [List.any_cons, h, valD]
    · by_cases h2 : (r.any fun kv => decide (kv.1 = kk)) = true
      · rw [if_pos (by simp [List.any_cons, h, h2])]
        rw [if_pos h2] at ih
        rw [List.map_cons, if_neg h, valD_neg h]
        exact ih
      · rw [if_neg (by simp [List.any_cons, h] at h2 ⊢; exact h2)]
        rw [if_neg h2] at ih
        rw [List.cons_append, valD_neg h]
        exact ih
theorem valD_put_ne {v : D} {k2 : Key} (hne : k2 ≠ kk) : valD (putKD kvs kk v) k2 = valD kvs k2 := by
  unfold putKD
  induction kvs with
  | nil => simp [valD, Ne.symm hne]
  | cons p r ih =>
    by_cases h : p.1 = kk
    · rw [if_pos (by simp [List.any_cons, h])]
      rw [List.map_cons, if_pos h, valD_neg (by intro z; exact hne (z.symm.trans h)), valD_neg (by intro z; exact hne (z.symm.trans h))]
      by_cases h2 : (r.any fun kv => decide (kv.1 = kk)) = true
      · rw [if_pos h2] at ih
        exact ih
      · have e : (r.map fun kv => if kv.1 = kk then (kv.1, v) else kv) = r := by
          rw [List.map_congr_left (g := id) (fun q hq => ?_), List.map_id]
          rw [if_neg (fun z => h2 (List.any_eq_true.mpr ⟨q, hq, by simp [z]⟩))]
          rfl
        rw [e]
    · by_cases h2 : (r.any fun kv => decide (kv.1 = kk)) = true
      · rw [if_pos (by simp [List.any_cons, h, h2])]
        rw [if_pos h2] at ih
        rw [List.map_cons, if_neg h]
        by_cases h3 : p.1 = k2
        · rw [valD_pos h3, valD_pos h3]
        · rw [valD_neg h3, valD_neg h3]; exact ih
      · rw [if_neg (by simp [List.any_cons, h] at h2 ⊢; exact h2)]
        rw [if_neg h2] at ih
        rw [List.cons_append]
        by_cases h3 : p.1 = k2
        · rw [valD_pos h3, valD_pos h3]
        · rw [valD_neg h3, valD_neg h3]; exact ih
theorem any_valD : (kvs.any fun kv => decide (kv.1 = kk)) = (valD kvs kk).isSome := by
  induction kvs with
  | nil => rfl
  | cons p r ih =>
    by_cases h : p.1 = kk
    · simp [List.any_cons, h, valD]
    · rw [List.any_cons, valD_neg h, ← ih]; simp [h]
theorem keys_put_old {v : D} (h : (valD kvs kk).isSome = true) : (putKD kvs kk v).map (·.1) = kvs.map (·.1) := by
  unfold putKD
  rw [if_pos (by rw [any_valD]; exact h), List.map_map]
  refine List.map_congr_left fun p _ => ?_
  show (if p.1 = kk then (p.1, v) else p).1 = p.1
  split <;> rfl
theorem keys_put_new {v : D} (h : valD kvs kk = none) : putKD kvs kk v = kvs ++ [(kk, v)] := by
  unfold putKD
  rw [if_neg (by rw [any_valD, h]; simp)]
theorem mup_comm {μ : Mu} {a b : Addr} {o u : MO} (h : a ≠ b) : mup (mup μ a o) b u = mup (mup μ b u) a o := by
  funext c; unfold mup
  by_cases e : c = a
  · subst e; rw [if_neg h, if_pos rfl, if_pos rfl]
  · by_cases e2 : c = b
    · subst e2; rw [if_pos rfl, if_neg e, if_pos rfl]
    · rw [if_neg e2, if_neg e, if_neg e, if_neg e2]
end
end J

namespace J
open PySem PySem.Spec PyProof.Rows L2
theorem rngD_eq (n : Nat) : rngD 0 n = (List.range' 0 n).map fun i : Nat => D.int (i : Nat) := by
  unfold rngD
  rw [List.range_eq_range']
  refine List.map_congr_left fun i _ => ?_
  rw [Int.zero_add]
/-- a loop over range(n) -/
theorem loop_rng {g : TG2} {tb : TS2} {G : Mu → Prop} {D1 : Ends2} {n : Nat} (P : Nat → Sg → Mu → Prop) (hG : ∀ k δ μ, P k δ μ → G μ)
    (hs : ∀ k δ μ, k < n → P k δ μ → ∀ QN : Sg → Mu → Prop, (∀ δ' μ', P (k + 1) δ' μ' → QN δ' μ') → g (.int (k : Nat)) δ μ fun δ' μ' => tb { nx := QN, rt := D1.rt, bk := D1.nx, ct := QN } δ' μ')
    (hd : ∀ δ μ, P n δ μ → D1.nx δ μ) (δ : Sg) (μ : Mu) (p : P 0 δ μ) : jLoop g tb G D1 (rngD 0 n) δ μ := by
  rw [rngD_eq]
  refine loop_inv (fun r δ μ => ∃ k m, k + m = n ∧ r = (List.range' k m).map (fun i : Nat => D.int (i : Nat)) ∧ P k δ μ) (fun r δ μ ⟨k, m, _, _, h⟩ => hG k δ μ h) ?_ ?_ _ _ _ ⟨0, n, by omega, rfl, p⟩
  · rintro x r δ μ ⟨k, m, hk, hr, h⟩ QN hN
    cases m with
    | zero => cases hr
    | succ m =>
      rw [List.range'_succ, List.map_cons] at hr
      injection hr with h1 h2
      subst h1
      exact hs k δ μ (by omega) h QN fun δ' μ' p' => hN _ _ ⟨k + 1, m, by omega, h2, p'⟩
  · rintro δ μ ⟨k, m, hk, hr, h⟩
    cases m with
    | zero =>
      have e : k = n := by omega
      subst e
      exact hd _ _ h
    | succ m => rw [List.range'_succ, List.map_cons] at hr; cases hr
end J
namespace J
open PySem PySem.Spec PyProof.Rows L2
theorem x_seqo {n : Sg → Mu → Prop} {r : QE} {b c : Sg → Mu → Prop} {δ : Sg} {μ : Mu} {t u : TS2} (h : ∀ N : Sg → Mu → Prop, N = u { nx := n, rt := r, bk := b, ct := c } → t { nx := N, rt := r, bk := b, ct := c } δ μ) : jSeq t u { nx := n, rt := r, bk := b, ct := c } δ μ := h _ rfl
theorem x_nx {N P : Sg → Mu → Prop} {δ : Sg} {μ : Mu} (e : N = P) (h : P δ μ) : N δ μ := by rw [e]; exact h
end J
namespace J
open PySem PySem.Spec PyProof.Rows L2
/-! ### guards: the shape of a goal, asked before a rule with side conditions is tried -/
section
variable {δ : Sg} {μ : Mu} {Q : QE} {QS : Sg → Mu → Prop} {QM : Mu → Prop} {d e : D} {i j : Int} {k n : Nat} {a : Addr} {xs : List D} {A : Prop}
theorem g_name (h : kName k d δ μ QS) : kName k d δ μ QS := h
theorem g_var (h : jVar k δ μ Q) : jVar k δ μ Q := h
theorem g_aug {t : TE2} {r : O2} {D0 : Ends2} (h : jAug k t r D0 δ μ) : jAug k t r D0 δ μ := h
theorem g_mul (h : mul2 (.int i) (.int j) μ Q) : mul2 (.int i) (.int j) μ Q := h
theorem g_mod (h : mod2 (.int i) (.int j) μ Q) : mod2 (.int i) (.int j) μ Q := h
theorem g_fdiv (h : fdiv2 (.int i) (.int j) μ Q) : fdiv2 (.int i) (.int j) μ Q := h
theorem g_shr (h : shr2 (.int i) (.int j) μ Q) : shr2 (.int i) (.int j) μ Q := h
theorem g_pow (h : pow2 (.int i) (.int j) μ Q) : pow2 (.int i) (.int j) μ Q := h
theorem g_ixL (h : ix2 (.lst xs) d μ Q) : ix2 (.lst xs) d μ Q := h
theorem g_ixT (h : ix2 (.tup xs) d μ Q) : ix2 (.tup xs) d μ Q := h
theorem g_ixM (h : ix2 (.ref a) d μ Q) : ix2 (.ref a) d μ Q := h
theorem g_setL (h : set2 (.ref a) d e μ QM) : set2 (.ref a) d e μ QM := h
theorem g_lenM (h : len1 [.ref a] μ Q) : len1 [.ref a] μ Q := h
theorem g_listM (h : list1 [.ref a] μ Q) : list1 [.ref a] μ Q := h
theorem g_tupleM (h : tuple1 [.ref a] μ Q) : tuple1 [.ref a] μ Q := h
theorem g_isi {T : Ty} (h : isi T [d, e] μ Q) : isi T [d, e] μ Q := h
theorem g_tyM (h : TyM "list" (.ref a) μ ∧ A) : TyM "list" (.ref a) μ ∧ A := h
theorem g_tyMD (h : TyM "dict" (.ref a) μ ∧ A) : TyM "dict" (.ref a) μ ∧ A := h
theorem g_le (h : k ≤ n ∧ A) : k ≤ n ∧ A := h
end
end J

open PySem PySem.Spec PyProof.Rows L2 J
local macro_rules | `(tactic| walk_at "mu") => `(tactic| first
  | assumption
  | exact mup_same
  | (refine Eq.trans (mup_ne ?_) ?_ <;> first | assumption | (apply Ne.symm; assumption) | exact mup_same | (refine Eq.trans (mup_ne ?_) ?_ <;> first | assumption | (apply Ne.symm; assumption) | exact mup_same | (refine Eq.trans (mup_ne ?_) ?_ <;> first | assumption | (apply Ne.symm; assumption) | exact mup_same))))
local macro_rules | `(tactic| walk_at "sz") => `(tactic| first
  | exact Nat.le_of_ble_eq_true (by with_unfolding_all rfl)
  | assumption
  | (simp only [List.length_append, List.length_cons, List.length_nil, List.length_map, List.length_set, List.length_reverse] at *; have hszl := sizeLine_eq; omega))
local macro_rules | `(tactic| walk_at "j") => `(tactic| with_reducible first
  | refine x_seqo fun _ _ => ?_ | refine x_asg ?_ | refine x_ret ?_ | refine x_retN ?_ | refine x_ifs ?_ | refine x_next ?_ | refine x_brk ?_ | refine x_cont ?_ | refine x_drop ?_
  | (refine g_name ?_; refine x_name (by dsimp only [List.set]) ?_)
  | (refine g_var ?_; refine x_var (by with_unfolding_all rfl) ?_) | refine x_c ?_ | refine x_op ?_ | refine x_un ?_ | refine x_test ?_ | refine x_blk ?_ | refine x_chain ?_
  | refine x_and ?_ | refine x_or ?_ | refine x_not ?_ | refine x_andV ?_ | refine x_orV ?_ | refine x_notV ?_ | refine x_if ?_
  | refine x_nil ?_ | refine x_cons ?_ | refine x_tup ?_ | refine x_lst ?_ | refine x_cb ?_ | refine x_call ?_ | refine x_bm0 ?_ | refine x_bm ?_
  | refine x_sl ?_ | refine x_nopart ?_ | refine x_part ?_ | refine x_parti ?_ | refine x_sub ?_ | refine x_for ?_ | refine x_lc ?_ | refine x_yes ?_
  | refine x_disp ?_ | refine x_pairs0 ?_ | refine x_pairs ?_ | refine x_dnew ?_
  | (refine g_mul ?_; refine x_mulR (by decide) ?_) | (refine g_mul ?_; refine x_mulL (by decide) ?_) | (refine g_mod ?_; refine x_mod (by first | decide | omega) ?_) | (refine g_fdiv ?_; refine x_fdiv (by decide) (by decide) ?_) | (refine g_shr ?_; refine x_shr (by first | decide | omega) ?_) | (refine g_pow ?_; refine x_pow (by decide) ?_)
  | refine x_par ?_ | (refine g_aug ?_; refine x_aug (by with_unfolding_all rfl) ?_) | refine x_augI ?_
  | refine x_add ?_ | refine x_subI ?_ | refine x_neg ?_ | refine x_cmp ?_ | refine x_cmpS ?_ | refine x_eqI ?_ | refine x_eqS ?_ | refine x_eqB ?_ | refine x_neI ?_ | refine x_neS ?_ | refine x_neB ?_ | refine x_isB ?_ | refine x_isnB ?_
  | (refine g_ixL ?_; refine x_ixL (by with_unfolding_all rfl) ?_) | (refine g_ixT ?_; refine x_ixT (by with_unfolding_all rfl) ?_) | (refine g_ixM ?_; refine x_ixM (by walk_at "mu") (by with_unfolding_all rfl) ?_)
  | (refine g_setL ?_; refine x_setL (by walk_at "mu") (by with_unfolding_all rfl) ?_)
  | refine x_lenL ?_ | refine x_lenR ?_ | refine x_lenT ?_ | refine x_lenD ?_ | (refine g_lenM ?_; refine x_lenM (by walk_at "mu") ?_)
  | refine x_int ?_ | refine x_intB ?_ | refine x_listL ?_ | refine x_listR ?_ | refine x_listT ?_ | refine x_listD ?_ | (refine g_listM ?_; refine x_listM (by walk_at "mu") ?_) | (refine g_listM ?_; refine x_listDM (by walk_at "mu") ?_)
  | refine x_tupleL ?_ | refine x_tupleT ?_ | (refine g_tupleM ?_; refine x_tupleM (by walk_at "mu") ?_) | refine x_abs ?_ | refine x_max ?_ | refine x_min ?_
  | (refine g_isi ?_; refine x_isi (by with_unfolding_all rfl) (by with_unfolding_all rfl) ?_)
  | (refine g_tyM ?_; refine x_tyM (by walk_at "mu") ?_) | (refine g_tyMD ?_; refine x_tyMD (by walk_at "mu") ?_)
  | refine x_iL ?_ | refine x_iLf ?_ | refine x_iLr ?_ | refine x_iT ?_ | refine x_iTf ?_ | refine x_iR1 ?_ | refine x_iR2 ?_
  | (refine g_le ?_; refine And.intro (Nat.le_of_ble_eq_true (by with_unfolding_all rfl)) ?_)
  | refine x_nx (by assumption) ?_)
local macro_rules | `(tactic| walk_at "js") => `(tactic| repeat (walk_at "j"))

namespace L
open PySem PySem.Spec PyProof.Rows L2 J
def c_COUNT_KEYS : D := .tup [.str ("puts" : Str), .str ("takes" : Str), .str ("rises" : Str), .str ("found" : Str), .str ("joined" : Str), .str ("parted" : Str), .str ("cuts" : Str), .str ("splices" : Str)]
def t_top_level : TS2 :=
    jSeq (jAsg (jC (.int 0)) (kName 1))
    (jSeq (jWhile (jTest (jOp gt2 (jOp shr2 (jVar 0) (jOp add2 (jVar 1) (jC (.int 1)))) (jC (.int 0))))
    (jAug 1 (jC (.int 1)) (augI (fun i j => i + j))))
    (jRet (jVar 1)))
def t_rise_bound (sp_top_level : Sp2) : TS2 :=
    jRet (jOp mul2 (jVar 1) (jCB max1 (jCons (jC (.int 0)) (jCons (jOp sub2 (jCall sp_top_level [] noEx (jCons (jVar 0) (jNil))) (jC (.int 1))) (jNil)))))
def t_step_bound (sp_top_level : Sp2) : TS2 :=
    jRet (jOp add2 (jOp add2 (jOp mul2 (jC (.int 7)) (jVar 1)) (jOp mul2 (jOp mul2 (jC (.int 12)) (jCB max1 (jCons (jC (.int 1)) (jCons (jCall sp_top_level [] noEx (jCons (jVar 0) (jNil))) (jNil))))) (jVar 2))) (jOp mul2 (jC (.int 7)) (jVar 3)))
def t_is_within (sp_rise_bound : Sp2) (sp_step_bound : Sp2) : TS2 :=
    jSeq (jFor (iT (jC c_COUNT_KEYS)) (kName 2)
    (jIfS (jTest (jOp lt2 (jOp ix2 (jVar 1) (jVar 2)) (jC (.int 0))))
    (jRet (jC (.bl false)))
    (jNext)))
    (jSeq (jPar [3, 4, 5] (jCons (jOp ix2 (jVar 1) (jC (.str ("puts" : Str)))) (jCons (jOp ix2 (jVar 1) (jC (.str ("takes" : Str)))) (jCons (jOp ix2 (jVar 1) (jC (.str ("rises" : Str)))) (jNil)))))
    (jSeq (jIfS (jOr (jTest (jOp gt2 (jVar 4) (jVar 3))) (jTest (jOp gt2 (jOp ix2 (jVar 1) (jC (.str ("joined" : Str)))) (jVar 3))))
    (jRet (jC (.bl false)))
    (jNext))
    (jSeq (jIfS (jTest (jOp gt2 (jOp add2 (jOp ix2 (jVar 1) (jC (.str ("found" : Str)))) (jOp ix2 (jVar 1) (jC (.str ("parted" : Str))))) (jVar 4)))
    (jRet (jC (.bl false)))
    (jNext))
    (jSeq (jAsg (jOp sub2 (jOp ix2 (jVar 1) (jC (.str ("joined" : Str)))) (jOp ix2 (jVar 1) (jC (.str ("parted" : Str))))) (kName 6))
    (jSeq (jIfS (jOr (jTest (jOp lt2 (jVar 6) (jC (.int 0)))) (jTest (jOp gt2 (jVar 6) (jCB max1 (jCons (jC (.int 0)) (jCons (jOp sub2 (jVar 0) (jC (.int 1))) (jNil)))))))
    (jRet (jC (.bl false)))
    (jNext))
    (jSeq (jIfS (jTest (jOp gt2 (jVar 5) (jCall sp_rise_bound [] noEx (jCons (jVar 0) (jCons (jVar 3) (jNil))))))
    (jRet (jC (.bl false)))
    (jNext))
    (jRet (jOp le2 (jOp add2 (jOp ix2 (jVar 1) (jC (.str ("cuts" : Str)))) (jOp ix2 (jVar 1) (jC (.str ("splices" : Str))))) (jCall sp_step_bound [] noEx (jCons (jVar 0) (jCons (jVar 3) (jCons (jVar 4) (jCons (jVar 5) (jNil))))))))))))))
def t_l_store : TS2 :=
    jSeq (jAsg (jCB list1 (jCons (jVar 0) (jNil))) (kName 1))
    (jSeq (jAsg (jOp add2 (jC (.int 7)) (jCB len1 (jCons (jVar 1) (jNil)))) (kName 2))
    (jSeq (jFor (iL (jVar 1)) (kName 3)
    (jAsg (jOp mod2 (jOp add2 (jOp add2 (jOp mul2 (jVar 2) (jC (.int 48271))) (jOp mod2 (jCB int1 (jCons (jVar 3) (jNil))) (jC (.int 2147483629)))) (jC (.int 1))) (jC (.int 2147483647))) (kName 2)))
    (jRet (jLst (jCons (jVar 1) (jCons (jC (.int 0)) (jCons (jC (.int 0)) (jCons (jVar 2) (jCons (jC (.int 0)) (jNil))))))))))
def t_l_take : TS2 :=
    jSeq (jIfS (jTest (jOp lt2 (jVar 1) (jC (.int 2))))
    (jRet (jC (.int 0)))
    (jNext))
    (jSeq (jAsg (jCB int1 (jCons (jOp ix2 (jVar 0) (jC (.int 2))) (jNil))) (kName 2))
    (jSeq (jIfS (jTest (jOp gt2 (jVar 2) (jC (.int 0))))
    (jSeq (jAsg (jOp fdiv2 (jVar 2) (jVar 1)) (kSub (jVar 0) (jC (.int 2))))
    (jRet (jOp mod2 (jVar 2) (jVar 1))))
    (jNext))
    (jSeq (jAsg (jOp add2 (jCB int1 (jCons (jOp ix2 (jVar 0) (jC (.int 4))) (jNil))) (jC (.int 1))) (kSub (jVar 0) (jC (.int 4))))
    (jSeq (jAsg (jCB int1 (jCons (jOp ix2 (jVar 0) (jC (.int 4))) (jNil))) (kName 3))
    (jSeq (jAsg (jOp ix2 (jVar 0) (jC (.int 0))) (kName 4))
    (jSeq (jAsg (jCB int1 (jCons (jOp ix2 (jVar 0) (jC (.int 1))) (jNil))) (kName 5))
    (jSeq (jIfS (jTest (jOp lt2 (jVar 5) (jCB len1 (jCons (jVar 4) (jNil)))))
    (jSeq (jAsg (jCB int1 (jCons (jOp ix2 (jVar 4) (jVar 5)) (jNil))) (kName 6))
    (jSeq (jAsg (jOp add2 (jVar 5) (jC (.int 1))) (kSub (jVar 0) (jC (.int 1))))
    (jSeq (jIfS (jTest (jOp ge2 (jVar 6) (jOp pow2 (jC (.int 10)) (jC (.int 18)))))
    (jSeq (jAsg (jOp fdiv2 (jVar 6) (jVar 1)) (kSub (jVar 0) (jC (.int 2))))
    (jRet (jOp mod2 (jVar 6) (jVar 1))))
    (jNext))
    (jAsg (jOp mod2 (jOp add2 (jOp add2 (jOp mul2 (jVar 6) (jC (.int 48271))) (jOp mul2 (jVar 3) (jC (.int 69621)))) (jC (.int 104729))) (jC (.int 2147483647))) (kName 7)))))
    (jSeq (jAsg (jOp mod2 (jOp add2 (jOp add2 (jOp mul2 (jCB int1 (jCons (jOp ix2 (jVar 0) (jC (.int 3))) (jNil))) (jC (.int 48271))) (jOp mul2 (jVar 3) (jC (.int 69621)))) (jC (.int 1))) (jC (.int 2147483647))) (kName 7))
    (jAsg (jVar 7) (kSub (jVar 0) (jC (.int 3))))))
    (jRet (jOp mod2 (jOp mod2 (jOp add2 (jOp mul2 (jVar 7) (jVar 7)) (jOp fdiv2 (jVar 7) (jC (.int 1009)))) (jC (.int 2147483399))) (jVar 1))))))))))
def t_l_pick (sp_l_take : Sp2) : TS2 :=
    jSeq (jIfS (jTest (jOp eq2 (jCB len1 (jCons (jVar 1) (jNil))) (jC (.int 0))))
    (jRet (jC .non))
    (jNext))
    (jRet (jOp ix2 (jVar 1) (jCall sp_l_take [] noEx (jCons (jVar 0) (jCons (jCB len1 (jCons (jVar 1) (jNil))) (jNil))))))
def t_l_shuffled (sp_l_take : Sp2) : TS2 :=
    jSeq (jAsg (jCB list1 (jCons (jVar 1) (jNil))) (kName 2))
    (jSeq (jAsg (jCall sp_l_take [] noEx (jCons (jVar 0) (jCons (jC (.int 6)) (jNil)))) (kName 3))
    (jSeq (jIfS (jTest (jOp eq2 (jVar 3) (jC (.int 0))))
    (jRet (jVar 2))
    (jNext))
    (jSeq (jIfS (jTest (jOp eq2 (jVar 3) (jC (.int 1))))
    (jRet (jUn rev1 (jVar 2)))
    (jNext))
    (jSeq (jFor (iR1 (jCons (jOp sub2 (jCB len1 (jCons (jVar 2) (jNil))) (jC (.int 1))) (jNil))) (kName 4)
    (jSeq (jAsg (jOp add2 (jVar 4) (jCall sp_l_take [] noEx (jCons (jVar 0) (jCons (jOp sub2 (jCB len1 (jCons (jVar 2) (jNil))) (jVar 4)) (jNil))))) (kName 5))
    (jSeq (jAsg (jOp ix2 (jVar 2) (jVar 4)) (kName 6))
    (jSeq (jAsg (jOp ix2 (jVar 2) (jVar 5)) (kSub (jVar 2) (jVar 4)))
    (jAsg (jVar 6) (kSub (jVar 2) (jVar 5)))))))
    (jRet (jVar 2))))))
def t_l_alike (sp : Sp2) : TS2 :=
    jSeq (jIfS (jOr (jTest (jCB (isi .str) (jCons (jVar 0) (jCons (jC (.ty "str")) jNil)))) (jTest (jCB (isi .str) (jCons (jVar 1) (jCons (jC (.ty "str")) jNil)))))
    (jRet (jAndV (jCB (isi .str) (jCons (jVar 0) (jCons (jC (.ty "str")) jNil))) (jAndV (jCB (isi .str) (jCons (jVar 1) (jCons (jC (.ty "str")) jNil))) (jOp eq2 (jVar 0) (jVar 1)))))
    (jNext))
    (jSeq (jIfS (jOr (jAnd (jTest (jCB (isi .lst) (jCons (jVar 0) (jCons (jC (.ty "list")) jNil)))) (jTest (jCB (isi .lst) (jCons (jVar 1) (jCons (jC (.ty "list")) jNil))))) (jAnd (jTest (jCB (isi .tup) (jCons (jVar 0) (jCons (jC (.ty "tuple")) jNil)))) (jTest (jCB (isi .tup) (jCons (jVar 1) (jCons (jC (.ty "tuple")) jNil))))))
    (jRet (jAndV (jOp eq2 (jCB len1 (jCons (jVar 0) (jNil))) (jCB len1 (jCons (jVar 1) (jNil)))) (jOp (in2 true) (jC (.bl false)) (jLc (iR1 (jCons (jCB len1 (jCons (jVar 0) (jNil))) (jNil))) (kName 2) (jYes) (jCall sp [] noEx (jCons (jOp ix2 (jVar 0) (jVar 2)) (jCons (jOp ix2 (jVar 1) (jVar 2)) (jNil)))) [2]))))
    (jNext))
    (jSeq (jIfS (jOr (jTest (jOp (is2 false) (jVar 0) (jC .non))) (jTest (jOp (is2 false) (jVar 1) (jC .non))))
    (jRet (jAndV (jOp (is2 false) (jVar 0) (jC .non)) (jOp (is2 false) (jVar 1) (jC .non))))
    (jNext))
    (jSeq (jIfS (jOr (jNot (jTest (jCB (isi .int) (jCons (jVar 0) (jCons (jC (.ty "int")) jNil))))) (jNot (jTest (jCB (isi .int) (jCons (jVar 1) (jCons (jC (.ty "int")) jNil))))))
    (jRet (jC (.bl false)))
    (jNext))
    (jRet (jAndV (jOp eq2 (jCB (isi .bl) (jCons (jVar 0) (jCons (jC (.ty "bool")) jNil))) (jCB (isi .bl) (jCons (jVar 1) (jCons (jC (.ty "bool")) jNil)))) (jOp eq2 (jVar 0) (jVar 1)))))))
def t_l_number (sp_l_take : Sp2) : TS2 :=
    jSeq (jAsg (jOp ix2 (jLst (jCons (jC (.int 2)) (jCons (jC (.int 40)) (jCons (jC (.int 300)) (jCons (jC (.int 300)) (jCons (jC (.int 2000000000)) (jCons (jOp pow2 (jC (.int 10)) (jC (.int 30))) (jNil)))))))) (jCall sp_l_take [] noEx (jCons (jVar 0) (jCons (jC (.int 6)) (jNil))))) (kName 1))
    (jRet (jCall sp_l_take [] noEx (jCons (jVar 0) (jCons (jVar 1) (jNil)))))
def t_l_up_to (sp_l_take : Sp2) : TS2 :=
    jSeq (jAsg (jCall sp_l_take [] noEx (jCons (jVar 0) (jCons (jC (.int 4)) (jNil)))) (kName 2))
    (jSeq (jIfS (jTest (jOp lt2 (jVar 2) (jC (.int 2))))
    (jRet (jOp mul2 (jVar 1) (jVar 2)))
    (jNext))
    (jRet (jCall sp_l_take [] noEx (jCons (jVar 0) (jCons (jOp add2 (jVar 1) (jC (.int 1))) (jNil))))))
def t_l_double : TS2 :=
    jSeq (jAsg (jC (.int 1)) (kName 1))
    (jSeq (jFor (iR1 (jCons (jVar 0) (jNil))) (kName 2)
    (jAsg (jOp add2 (jVar 1) (jVar 1)) (kName 1)))
    (jRet (jVar 1)))
def t_l_sentences (sp_l_double : Sp2) : TS2 :=
    jSeq (jAsg (jCB max1 (jCons (jLc (iR1 (jCons (jC (.int 6)) (jNil))) (kName 7) (jOr (jTest (jOp eq2 (jVar 7) (jC (.int 0)))) (jTest (jOp le2 (jOp mul2 (jC (.int 2)) (jCall sp_l_double [] noEx (jCons (jOp sub2 (jVar 7) (jC (.int 1))) (jNil)))) (jVar 0)))) (jVar 7) [7]) (jNil))) (kName 2))
    (jSeq (jAsg (jOp mul2 (jOp ix2 (jVar 1) (jC (.str ("puts" : Str)))) (jCB max1 (jCons (jC (.int 0)) (jCons (jOp sub2 (jVar 2) (jC (.int 1))) (jNil))))) (kName 3))
    (jSeq (jAsg (jOp add2 (jOp add2 (jOp mul2 (jOp ix2 (jVar 1) (jC (.str ("puts" : Str)))) (jC (.int 7))) (jOp mul2 (jOp mul2 (jOp ix2 (jVar 1) (jC (.str ("takes" : Str)))) (jC (.int 12))) (jCB max1 (jCons (jC (.int 1)) (jCons (jVar 2) (jNil)))))) (jOp mul2 (jOp ix2 (jVar 1) (jC (.str ("rises" : Str)))) (jC (.int 7)))) (kName 4))
    (jSeq (jAsg (jLc (iL (jCB sorted1 (jCons (jCB list1 (jCons (jVar 1) (jNil))) (jNil)))) (kName 6) (jYes) (jOp ge2 (jOp ix2 (jVar 1) (jVar 6)) (jC (.int 0))) [6]) (kName 5))
    (jSeq (jAsg (jOp add2 (jVar 5) (jLst (jCons (jOp le2 (jOp ix2 (jVar 1) (jC (.str ("takes" : Str)))) (jOp ix2 (jVar 1) (jC (.str ("puts" : Str))))) (jCons (jOp le2 (jOp ix2 (jVar 1) (jC (.str ("joined" : Str)))) (jOp ix2 (jVar 1) (jC (.str ("puts" : Str))))) (jNil))))) (kName 5))
    (jSeq (jAsg (jOp add2 (jVar 5) (jLst (jCons (jOp le2 (jOp add2 (jOp ix2 (jVar 1) (jC (.str ("found" : Str)))) (jOp ix2 (jVar 1) (jC (.str ("parted" : Str))))) (jOp ix2 (jVar 1) (jC (.str ("takes" : Str))))) (jCons (jOp ge2 (jOp ix2 (jVar 1) (jC (.str ("joined" : Str)))) (jOp ix2 (jVar 1) (jC (.str ("parted" : Str))))) (jNil))))) (kName 5))
    (jSeq (jAsg (jOp add2 (jVar 5) (jLst (jCons (jOp le2 (jOp sub2 (jOp ix2 (jVar 1) (jC (.str ("joined" : Str)))) (jOp ix2 (jVar 1) (jC (.str ("parted" : Str))))) (jCB max1 (jCons (jC (.int 0)) (jCons (jOp sub2 (jVar 0) (jC (.int 1))) (jNil))))) (jCons (jOp le2 (jOp ix2 (jVar 1) (jC (.str ("rises" : Str)))) (jVar 3)) (jNil))))) (kName 5))
    (jRet (jOp add2 (jVar 5) (jLst (jCons (jOp le2 (jOp add2 (jOp ix2 (jVar 1) (jC (.str ("cuts" : Str)))) (jOp ix2 (jVar 1) (jC (.str ("splices" : Str))))) (jVar 4)) (jNil)))))))))))
def t_l_good_counts (sp_l_number : Sp2) (sp_l_up_to : Sp2) (sp_l_shuffled : Sp2) (sp_l_double : Sp2) : TS2 :=
    jSeq (jAsg (jCall sp_l_number [] noEx (jCons (jVar 0) (jNil))) (kName 2))
    (jSeq (jAsg (jCall sp_l_up_to [] noEx (jCons (jVar 0) (jCons (jVar 2) (jNil)))) (kName 3))
    (jSeq (jAsg (jCall sp_l_up_to [] noEx (jCons (jVar 0) (jCons (jVar 3) (jNil)))) (kName 4))
    (jSeq (jAsg (jCall sp_l_up_to [] noEx (jCons (jVar 0) (jCons (jOp sub2 (jVar 3) (jVar 4)) (jNil)))) (kName 5))
    (jSeq (jAsg (jCB min1 (jCons (jVar 2) (jCons (jOp add2 (jVar 5) (jCall sp_l_up_to [] noEx (jCons (jVar 0) (jCons (jCB max1 (jCons (jC (.int 0)) (jCons (jOp sub2 (jVar 1) (jC (.int 1))) (jNil)))) (jNil))))) (jNil)))) (kName 6))
    (jSeq (jAsg (jCB max1 (jCons (jLc (iR1 (jCons (jC (.int 6)) (jNil))) (kName 14) (jOr (jTest (jOp eq2 (jVar 14) (jC (.int 0)))) (jTest (jOp le2 (jOp mul2 (jC (.int 2)) (jCall sp_l_double [] noEx (jCons (jOp sub2 (jVar 14) (jC (.int 1))) (jNil)))) (jVar 1)))) (jVar 14) [14]) (jNil))) (kName 7))
    (jSeq (jAsg (jCall sp_l_up_to [] noEx (jCons (jVar 0) (jCons (jOp mul2 (jVar 2) (jCB max1 (jCons (jC (.int 0)) (jCons (jOp sub2 (jVar 7) (jC (.int 1))) (jNil))))) (jNil)))) (kName 8))
    (jSeq (jAsg (jCall sp_l_up_to [] noEx (jCons (jVar 0) (jCons (jOp add2 (jOp add2 (jOp mul2 (jVar 2) (jC (.int 7))) (jOp mul2 (jOp mul2 (jVar 3) (jC (.int 12))) (jCB max1 (jCons (jC (.int 1)) (jCons (jVar 7) (jNil)))))) (jOp mul2 (jVar 8) (jC (.int 7)))) (jNil)))) (kName 9))
    (jSeq (jAsg (jCall sp_l_up_to [] noEx (jCons (jVar 0) (jCons (jVar 9) (jNil)))) (kName 10))
    (jSeq (jAsg (jDisp [(jC (.str ("puts" : Str)), jVar 2), (jC (.str ("takes" : Str)), jVar 3), (jC (.str ("rises" : Str)), jVar 8), (jC (.str ("found" : Str)), jVar 4), (jC (.str ("joined" : Str)), jVar 6), (jC (.str ("parted" : Str)), jVar 5)]) (kName 11))
    (jSeq (jDrop (jBM "dict" update1 (jVar 11) (jCons (jDisp [(jC (.str ("cuts" : Str)), jVar 10), (jC (.str ("splices" : Str)), jOp sub2 (jVar 9) (jVar 10))]) (jNil))))
    (jSeq (jAsg (jDnew) (kName 12))
    (jSeq (jFor (iL (jCall sp_l_shuffled [] noEx (jCons (jVar 0) (jCons (jCB sorted1 (jCons (jCB list1 (jCons (jVar 11) (jNil))) (jNil))) (jNil))))) (kName 13)
    (jAsg (jOp ix2 (jVar 11) (jVar 13)) (kSub (jVar 12) (jVar 13))))
    (jRet (jVar 12))))))))))))))
def t_l_asked (sp_is_within : Sp2) (sp_l_sentences : Sp2) (sp_l_alike : Sp2) : TS2 :=
    jSeq (jAsg (jCB dict1 (jCons (jVar 1) (jNil))) (kName 2))
    (jSeq (jAsg (jOp (in2 true) (jC (.bl false)) (jCall sp_l_sentences [] noEx (jCons (jVar 0) (jCons (jVar 1) (jNil))))) (kName 3))
    (jSeq (jAsg (jCall sp_is_within [] noEx (jCons (jVar 0) (jCons (jVar 2) (jNil)))) (kName 4))
    (jSeq (jIfS (jOr (jNot (jTest (jCall sp_l_alike [] noEx (jCons (jVar 4) (jCons (jVar 3) (jNil)))))) (jTest (jOp ne2 (jCB sorted1 (jCons (jCB list1 (jCons (jVar 2) (jNil))) (jNil))) (jCB sorted1 (jCons (jCB list1 (jCons (jVar 1) (jNil))) (jNil))))))
    (jRet (jC (.bl false)))
    (jNext))
    (jRet (jOp (in2 true) (jC (.bl false)) (jLc (iL (jCB list1 (jCons (jVar 1) (jNil)))) (kName 5) (jYes) (jCall sp_l_alike [] noEx (jCons (jOp ix2 (jVar 2) (jVar 5)) (jCons (jOp ix2 (jVar 1) (jVar 5)) (jNil)))) [5]))))))
def t_law (sp_l_store : Sp2) (sp_l_number : Sp2) (sp_l_good_counts : Sp2) (sp_l_asked : Sp2) (sp_l_take : Sp2) (sp_l_alike : Sp2) (sp_l_pick : Sp2) (sp_rise_bound : Sp2) (sp_step_bound : Sp2) (sp_is_within : Sp2) (sp_l_sentences : Sp2) (sp_l_double : Sp2) : TS2 :=
    jSeq (jAsg (jCall sp_l_store [] noEx (jCons (jVar 0) (jNil))) (kName 1))
    (jSeq (jAsg (jOp ix2 (jLst (jCons (jCall sp_l_take [] noEx (jCons (jVar 1) (jCons (jC (.int 33)) (jNil)))) (jCons (jC (.int 32)) (jCons (jC (.int 0)) (jCons (jC (.int 1)) (jCons (jC (.int 2)) (jCons (jC (.int 3)) (jCons (jC (.int 4)) (jCons (jC (.int 8)) (jCons (jC (.int 16)) (jCons (jC (.int 31)) (jNil)))))))))))) (jCall sp_l_take [] noEx (jCons (jVar 1) (jCons (jC (.int 10)) (jNil))))) (kName 2))
    (jSeq (jAsg (jCall sp_l_number [] noEx (jCons (jVar 1) (jNil))) (kName 3))
    (jSeq (jAsg (jCall sp_l_number [] noEx (jCons (jVar 1) (jNil))) (kName 4))
    (jSeq (jAsg (jCall sp_l_number [] noEx (jCons (jVar 1) (jNil))) (kName 5))
    (jSeq (jAsg (jCB max1 (jCons (jLc (iR1 (jCons (jC (.int 6)) (jNil))) (kName 13) (jOr (jTest (jOp eq2 (jVar 13) (jC (.int 0)))) (jTest (jOp le2 (jOp mul2 (jC (.int 2)) (jCall sp_l_double [] noEx (jCons (jOp sub2 (jVar 13) (jC (.int 1))) (jNil)))) (jVar 2)))) (jVar 13) [13]) (jNil))) (kName 6))
    (jSeq (jIfS (jNot (jTest (jCall sp_l_alike [] noEx (jCons (jCall sp_rise_bound [] noEx (jCons (jVar 2) (jCons (jVar 3) (jNil)))) (jCons (jOp mul2 (jVar 3) (jCB max1 (jCons (jC (.int 0)) (jCons (jOp sub2 (jVar 6) (jC (.int 1))) (jNil))))) (jNil))))))
    (jRet (jC (.bl false)))
    (jNext))
    (jSeq (jAsg (jOp add2 (jOp add2 (jOp add2 (jOp add2 (jVar 3) (jVar 3)) (jOp mul2 (jC (.int 5)) (jVar 3))) (jOp mul2 (jOp mul2 (jC (.int 12)) (jVar 4)) (jCB max1 (jCons (jC (.int 1)) (jCons (jVar 6) (jNil)))))) (jOp mul2 (jC (.int 7)) (jVar 5))) (kName 7))
    (jSeq (jIfS (jNot (jTest (jCall sp_l_alike [] noEx (jCons (jCall sp_step_bound [] noEx (jCons (jVar 2) (jCons (jVar 3) (jCons (jVar 4) (jCons (jVar 5) (jNil)))))) (jCons (jVar 7) (jNil))))))
    (jRet (jC (.bl false)))
    (jNext))
    (jSeq (jAsg (jCall sp_l_good_counts [] noEx (jCons (jVar 1) (jCons (jVar 2) (jNil)))) (kName 8))
    (jSeq (jIfS (jOr (jTest (jOp (is2 true) (jCall sp_is_within [] noEx (jCons (jVar 2) (jCons (jCB dict1 (jCons (jVar 8) (jNil))) (jNil)))) (jC (.bl true)))) (jTest (jOp (in2 false) (jC (.bl false)) (jCall sp_l_sentences [] noEx (jCons (jVar 2) (jCons (jVar 8) (jNil)))))))
    (jRet (jC (.bl false)))
    (jNext))
    (jSeq (jFor (iL (jCB sorted1 (jCons (jCB list1 (jCons (jVar 8) (jNil))) (jNil)))) (kName 9)
    (jSeq (jFor (iL (jLst (jCons (jOp add2 (jOp ix2 (jVar 8) (jVar 9)) (jC (.int 1))) (jCons (jOp sub2 (jOp ix2 (jVar 8) (jVar 9)) (jC (.int 1))) (jCons (jUn neg1 (jC (.int 1))) (jCons (jCall sp_l_number [] noEx (jCons (jVar 1) (jNil))) (jNil))))))) (kName 10)
    (jSeq (jAsg (jCB dict1 (jCons (jVar 8) (jNil))) (kName 12))
    (jSeq (jAsg (jVar 10) (kSub (jVar 12) (jVar 9)))
    (jIfS (jNot (jTest (jCall sp_l_asked [] noEx (jCons (jVar 2) (jCons (jVar 12) (jNil))))))
    (jRet (jC (.bl false)))
    (jNext)))))
    (jSeq (jAsg (jCall sp_l_pick [] noEx (jCons (jVar 1) (jCons (jCB sorted1 (jCons (jCB list1 (jCons (jVar 8) (jNil))) (jNil))) (jNil)))) (kName 11))
    (jSeq (jAsg (jCB dict1 (jCons (jVar 8) (jNil))) (kName 12))
    (jSeq (jAsg (jOp sub2 (jOp ix2 (jVar 12) (jVar 9)) (jC (.int 1))) (kSub (jVar 12) (jVar 9)))
    (jSeq (jAsg (jOp add2 (jOp ix2 (jVar 12) (jVar 11)) (jC (.int 1))) (kSub (jVar 12) (jVar 11)))
    (jIfS (jNot (jTest (jCall sp_l_asked [] noEx (jCons (jVar 2) (jCons (jVar 12) (jNil))))))
    (jRet (jC (.bl false)))
    (jNext))))))))
    (jSeq (jIfS (jOr (jNot (jTest (jCall sp_l_asked [] noEx (jCons (jCB max1 (jCons (jC (.int 0)) (jCons (jOp sub2 (jVar 2) (jC (.int 1))) (jNil)))) (jCons (jVar 8) (jNil)))))) (jNot (jTest (jCall sp_l_asked [] noEx (jCons (jCB min1 (jCons (jC (.int 32)) (jCons (jOp add2 (jVar 2) (jC (.int 1))) (jNil)))) (jCons (jVar 8) (jNil)))))))
    (jRet (jC (.bl false)))
    (jNext))
    (jRet (jCall sp_l_asked [] noEx (jCons (jVar 2) (jCons (jVar 8) (jNil)))))))))))))))))

/-! ### the draws -/
def stO (cs : List Int) (pl dg st tk : Int) : MO := .lst [.lst (cs.map D.int), .int pl, .int dg, .int st, .int tk]
def IsSt (m : MO) : Prop := ∃ (cs : List Int) (pl : Nat) (dg st tk : Int), m = stO cs pl dg st tk ∧ cs.length ≤ 63 ∧ 0 ≤ dg ∧ 0 ≤ st ∧ st < 2147483647
def sp_l_store : Sp2 := fun ds μ Q _ => ∃ ns : List Int, ds = [.rol (ns.map D.int)] ∧ ns.length ≤ 63 ∧ ∀ (p : Addr) (m : MO), μ p = none → IsSt m → Q (.ref p) (mup μ p m)
theorem len_l_store (ds : List D) (μ : Mu) (Q : QE) (ex : Ex2) (h : sp_l_store ds μ Q ex) : ds.length = 1 := by
  obtain ⟨ns, rfl, _⟩ := h
  rfl
theorem pure_l_store (ds : List D) (μ : Mu) (Q : QE) (ex : Ex2) (h : sp_l_store ds μ Q ex) : t_l_store (ends Q) (startD ["a", "b", "c", "d"] ds) μ := by
  obtain ⟨ns, rfl, hn, q⟩ := h
  unfold t_l_store
  show jSeq _ _ (ends Q) [some _, none, none, none] μ
  walk_at "js"
  refine .f ?_
  walk_at "js"
  refine loop_inv (fun r δ μ' => μ' = μ ∧ (∃ rs : List Int, r = rs.map D.int) ∧ ∃ (k : Int) (x : Option D), 0 ≤ k ∧ (r = [] → k < 2147483647) ∧ δ = [some (D.rol (ns.map D.int)), some (D.lst (ns.map D.int)), some (.int k), x]) (fun _ _ _ _ => trivial) ?_ ?_ _ _ _ ⟨rfl, ⟨ns, rfl⟩, _, _, by omega, fun h => by simp at h; subst h; decide, rfl⟩
  · rintro x r δ μ' ⟨rfl, ⟨rs, hr⟩, k, y, hk, _, rfl⟩ QN hN
    cases rs with
    | nil => cases hr
    | cons z rs =>
      cases hr
      walk_at "js"
      exact hN _ _ ⟨rfl, ⟨rs, rfl⟩, _, _, Int.emod_nonneg _ (by decide), fun _ => Int.emod_lt_of_pos _ (by decide), rfl⟩
  · rintro δ μ' ⟨rfl, _, k, y, hk, hk2, rfl⟩
    walk_at "js"
    refine .m fun p hp => ?_
    exact .of (q p _ hp ⟨ns, 0, 0, k, 0, rfl, hn, by decide, hk, hk2 rfl⟩)
def sp_l_take : Sp2 := fun ds μ Q _ => ∃ (s : Addr) (n : Int) (m : MO), ds = [.ref s, .int n] ∧ μ s = some m ∧ IsSt m ∧ n < 2 ^ 200 ∧ ∀ (r : Int) (m' : MO), IsSt m' → 0 ≤ r → (n < 2 → r = 0) → (2 ≤ n → r < n) → Q (.int r) (mup μ s m')
theorem len_l_take (ds : List D) (μ : Mu) (Q : QE) (ex : Ex2) (h : sp_l_take ds μ Q ex) : ds.length = 2 := by
  obtain ⟨s, n, m, rfl, _⟩ := h
  rfl
theorem div_ok {n : Int} (h0 : 2 ≤ n) (h : n < 2 ^ 200) : n.natAbs.log2 < 9000 := by
  have hb : n.natAbs < 2 ^ 200 := by omega
  exact Nat.lt_of_lt_of_le (PySem.Flt.log2_lt_of (by decide) hb) (by decide)
theorem pure_l_take (ds : List D) (μ : Mu) (Q : QE) (ex : Ex2) (h : sp_l_take ds μ Q ex) : t_l_take (ends Q) (startD ["a", "b", "c", "d", "e", "f", "g", "h"] ds) μ := by
  obtain ⟨s, n, m, rfl, hs, ⟨cs, pl, dg, st, tk, rfl, hcs, hdg, hst, hst2⟩, hn, q⟩ := h
  unfold t_l_take
  show jSeq _ _ (ends Q) [some _, some _, none, none, none, none, none, none] μ
  unfold stO at hs
  walk_at "js"
  refine w_ifd (fun hc => ?_) (fun hc => ?_)
  · walk_at "js"
    have e := q 0 (stO cs pl dg st tk) ⟨cs, pl, dg, st, tk, rfl, hcs, hdg, hst, hst2⟩ (by decide) (fun _ => rfl) (fun h => by omega)
    rw [mup_self (show μ s = some (stO cs pl dg st tk) from hs)] at e
    exact .of e
  have hn2 : 2 ≤ n := by omega
  walk_at "js"
  refine w_ifd (fun hc2 => ?_) (fun hc2 => ?_)
  · walk_at "js"
    refine x_fdiv (by omega) (div_ok hn2 hn) ?_
    walk_at "js"
    exact .of (q _ _ ⟨cs, pl, dg / n, st, tk, rfl, hcs, Int.ediv_nonneg hdg (by omega), hst, hst2⟩ (Int.emod_nonneg _ (by omega)) (fun h => by omega) (fun _ => Int.emod_lt_of_pos _ (by omega)))
  walk_at "js"
  refine w_ifd (fun hc3 => ?_) (fun hc3 => ?_)
  · rw [List.length_map] at hc3
    have hpl : pl < cs.length := by omega
    walk_at "js"
    refine x_ixL (atI_some (by rw [List.getElem?_map, List.getElem?_eq_getElem hpl]; rfl)) ?_
    generalize cs[pl] = z
    walk_at "js"
    refine w_ifd (fun hc4 => ?_) (fun hc4 => ?_)
    · walk_at "js"
      refine x_fdiv (by omega) (div_ok hn2 hn) ?_
      walk_at "js"
      have h10 : (10 : Int) ^ Int.toNat 18 = 1000000000000000000 := by decide
      rw [h10] at hc4
      rw [mup_mup, mup_mup]
      exact .of (q _ _ ⟨cs, pl + 1, z / n, st, tk + 1, rfl, hcs, Int.ediv_nonneg (by omega) (by omega), hst, hst2⟩ (Int.emod_nonneg _ (by omega)) (fun h => by omega) (fun _ => Int.emod_lt_of_pos _ (by omega)))
    · walk_at "js"
      rw [mup_mup]
      have h1 := Int.emod_nonneg (z * 48271 + (tk + 1) * 69621 + 104729) (show (2147483647 : Int) ≠ 0 by decide)
      have h2 := Int.emod_lt_of_pos (z * 48271 + (tk + 1) * 69621 + 104729) (show (0 : Int) < 2147483647 by decide)
      generalize (z * 48271 + (tk + 1) * 69621 + 104729) % 2147483647 = x at *
      refine x_mulR ⟨by omega, by omega⟩ ?_
      walk_at "js"
      exact .of (q _ _ ⟨cs, pl + 1, dg, st, tk + 1, rfl, hcs, hdg, hst, hst2⟩ (Int.emod_nonneg _ (by omega)) (fun h => by omega) (fun _ => Int.emod_lt_of_pos _ (by omega)))
  · walk_at "js"
    rw [mup_mup]
    have h1 := Int.emod_nonneg (st * 48271 + (tk + 1) * 69621 + 1) (show (2147483647 : Int) ≠ 0 by decide)
    have h2 := Int.emod_lt_of_pos (st * 48271 + (tk + 1) * 69621 + 1) (show (0 : Int) < 2147483647 by decide)
    generalize (st * 48271 + (tk + 1) * 69621 + 1) % 2147483647 = x at *
    refine x_mulR ⟨by omega, by omega⟩ ?_
    walk_at "js"
    exact .of (q _ _ ⟨cs, pl, dg, x, tk + 1, rfl, hcs, hdg, h1, h2⟩ (Int.emod_nonneg _ (by omega)) (fun h => by omega) (fun _ => Int.emod_lt_of_pos _ (by omega)))

/-! ### top_level -/
theorem shr_pos (n k : Nat) : decide (((n : Int) / 2 ^ ((k : Int) + 1).toNat) > 0) = decide (k + 1 ≤ Nat.log2 n ∧ n ≠ 0) := by
  have e : ((k : Int) + 1).toNat = k + 1 := by omega
  rw [e]
  have h2 : (n : Int) / 2 ^ (k + 1) = ((n / 2 ^ (k + 1) : Nat) : Int) := by simp
  rw [h2]
  refine decide_eq_decide.mpr ?_
  constructor
  · intro h
    have h3 : 0 < n / 2 ^ (k + 1) := by omega
    have h4 : 2 ^ (k + 1) ≤ n := by
      rcases Nat.lt_or_ge n (2 ^ (k + 1)) with h5 | h5
      · rw [Nat.div_eq_of_lt h5] at h3; omega
      · exact h5
    have h0 : n ≠ 0 := by
      intro z; subst z
      have := Nat.two_pow_pos (k + 1)
      omega
    exact ⟨(Nat.le_log2 h0).mpr h4, h0⟩
  · rintro ⟨h, h0⟩
    have h4 := (Nat.le_log2 h0).mp h
    have := Nat.div_pos h4 (Nat.two_pow_pos (k + 1))
    omega
def sp_top_level : Sp2 := fun ds μ Q _ => ∃ n : Nat, ds = [.int n] ∧ n < 2 ^ 62 ∧ Q (.int (Nat.log2 n)) μ
theorem len_top_level (ds : List D) (μ : Mu) (Q : QE) (ex : Ex2) (h : sp_top_level ds μ Q ex) : ds.length = 1 := by
  obtain ⟨n, rfl, _⟩ := h
  rfl
theorem pure_top_level (ds : List D) (μ : Mu) (Q : QE) (ex : Ex2) (h : sp_top_level ds μ Q ex) : t_top_level (ends Q) (startD ["a", "b"] ds) μ := by
  obtain ⟨n, rfl, hn, q⟩ := h
  unfold t_top_level
  show jSeq _ _ (ends Q) [some _, none] μ
  walk_at "js"
  refine ⟨fun k δ μ' => μ' = μ ∧ ∃ l : Nat, δ = [some (.int n), some (.int l)] ∧ l ≤ Nat.log2 n ∧ k = Nat.log2 n - l, ⟨Nat.log2 n, rfl, 0, rfl, by omega, rfl⟩, ?_⟩
  rintro k δ μ' ⟨rfl, l, rfl, hl, hk⟩
  walk_at "js"
  rw [shr_pos]
  refine w_ifd (fun hc => ?_) (fun hc => ?_)
  · walk_at "js"
    exact ⟨Nat.log2 n - (l + 1), by omega, rfl, l + 1, rfl, by omega, rfl⟩
  · walk_at "js"
    have e : l = Nat.log2 n := by
      by_cases h0 : n = 0
      · subst h0
        have : Nat.log2 0 = 0 := by decide
        omega
      · have : ¬ (l + 1 ≤ Nat.log2 n) := fun h => hc ⟨h, h0⟩
        omega
    rw [e]
    exact .of q

/-! ### the two bounds -/
def mx (i j : Int) : Int := if j > i then j else i
def lgz (n : Nat) : Int := (Nat.log2 n : Nat)
theorem lg5 {n : Nat} (h : n < 64) : Nat.log2 n ≤ 5 := by
  rcases Nat.eq_zero_or_pos n with rfl | h0
  · decide
  · have := (Nat.log2_lt (by omega : n ≠ 0)).mpr (show n < 2 ^ 6 from h)
    omega
theorem mx_lt {n : Nat} {a b : Int} (h : n < 64) (ha : 0 ≤ a) (ha2 : a ≤ 1) (hb : 0 ≤ b) (hb2 : b ≤ 1) : 0 ≤ mx a (lgz n - b) ∧ mx a (lgz n - b) ≤ 5 := by
  have h5 := lg5 h
  unfold mx lgz
  split <;> omega
def sp_rise_bound : Sp2 := fun ds μ Q _ => ∃ (n : Nat) (p : Int), ds = [.int n, .int p] ∧ n < 64 ∧ Q (.int (p * mx 0 (lgz n - 1))) μ
theorem len_rise_bound (ds : List D) (μ : Mu) (Q : QE) (ex : Ex2) (h : sp_rise_bound ds μ Q ex) : ds.length = 2 := by
  obtain ⟨n, p, rfl, _⟩ := h
  rfl
theorem pure_rise_bound (ds : List D) (μ : Mu) (Q : QE) (ex : Ex2) (h : sp_rise_bound ds μ Q ex) : t_rise_bound sp_top_level (ends Q) (startD ["a", "b"] ds) μ := by
  obtain ⟨n, p, rfl, hn, q⟩ := h
  unfold t_rise_bound
  show jRet _ (ends Q) [some _, some _] μ
  walk_at "js"
  refine ⟨n, rfl, by omega, .of ?_⟩
  walk_at "js"
  have hm := mx_lt (a := 0) (b := 1) hn (by omega) (by omega) (by omega) (by omega)
  refine x_mulR (by unfold mx lgz at hm; omega) (.of q)
def sp_step_bound : Sp2 := fun ds μ Q _ => ∃ (n : Nat) (p t r : Int), ds = [.int n, .int p, .int t, .int r] ∧ n < 64 ∧ Q (.int (7 * p + 12 * mx 1 (lgz n - 0) * t + 7 * r)) μ
theorem len_step_bound (ds : List D) (μ : Mu) (Q : QE) (ex : Ex2) (h : sp_step_bound ds μ Q ex) : ds.length = 4 := by
  obtain ⟨n, p, t, r, rfl, _⟩ := h
  rfl
theorem pure_step_bound (ds : List D) (μ : Mu) (Q : QE) (ex : Ex2) (h : sp_step_bound ds μ Q ex) : t_step_bound sp_top_level (ends Q) (startD ["a", "b", "c", "d"] ds) μ := by
  obtain ⟨n, p, t, r, rfl, hn, q⟩ := h
  unfold t_step_bound
  show jRet _ (ends Q) [some _, some _, some _, some _] μ
  walk_at "js"
  refine ⟨n, rfl, by omega, .of ?_⟩
  walk_at "js"
  have hm := mx_lt (a := 1) (b := 0) hn (by omega) (by omega) (by omega) (by omega)
  refine x_mulL (by unfold mx lgz at hm; simp only [Int.sub_zero] at hm; omega) ?_
  walk_at "js"
  rw [Int.sub_zero] at q
  exact .of q
/-! ### small ones -/
def sp_l_double : Sp2 := fun ds μ Q _ => ∃ n : Nat, ds = [.int n] ∧ n < 1000 ∧ Q (.int (2 ^ n)) μ
theorem len_l_double (ds : List D) (μ : Mu) (Q : QE) (ex : Ex2) (h : sp_l_double ds μ Q ex) : ds.length = 1 := by
  obtain ⟨n, rfl, _⟩ := h
  rfl
theorem pure_l_double (ds : List D) (μ : Mu) (Q : QE) (ex : Ex2) (h : sp_l_double ds μ Q ex) : t_l_double (ends Q) (startD ["a", "b", "c"] ds) μ := by
  obtain ⟨n, rfl, hn, q⟩ := h
  unfold t_l_double
  show jSeq _ _ (ends Q) [some _, none, none] μ
  walk_at "js"
  refine ⟨(n : Int), rfl, by unfold rngOk; omega, ?_⟩
  refine loop_inv (fun r δ μ' => μ' = μ ∧ ∃ (k : Nat) (o : Option D), r.length + k = n ∧ δ = [some (.int n), some (.int (2 ^ k)), o]) (fun _ _ _ _ => trivial) ?_ ?_ _ _ _ ⟨rfl, 0, none, by simp [rngD], rfl⟩
  · rintro x r δ μ' ⟨rfl, k, o, hk, rfl⟩ QN hN
    walk_at "js"
    have e : (2 : Int) ^ k + 2 ^ k = 2 ^ (k + 1) := by rw [Int.pow_succ]; omega
    rw [e]
    exact hN _ _ ⟨rfl, k + 1, _, by simp only [List.length_cons] at hk; omega, rfl⟩
  · rintro δ μ' ⟨rfl, k, o, hk, rfl⟩
    walk_at "js"
    have e : k = n := by simpa using hk
    subst e
    exact .of q
def sp_l_number : Sp2 := fun ds μ Q _ => ∃ (s : Addr) (m : MO), ds = [.ref s] ∧ μ s = some m ∧ IsSt m ∧ ∀ (r : Int) (m' : MO), IsSt m' → 0 ≤ r → r < 10 ^ 30 → Q (.int r) (mup μ s m')
theorem len_l_number (ds : List D) (μ : Mu) (Q : QE) (ex : Ex2) (h : sp_l_number ds μ Q ex) : ds.length = 1 := by
  obtain ⟨s, m, rfl, _⟩ := h
  rfl
theorem pick6 (a b c d e f : Int) {r : Int} (h0 : 0 ≤ r) (h1 : r < 6) : ∃ v, atI [D.int a, .int b, .int c, .int d, .int e, .int f] r = some (.int v) ∧ (v = a ∨ v = b ∨ v = c ∨ v = d ∨ v = e ∨ v = f) := by
  obtain rfl | rfl | rfl | rfl | rfl | rfl : r = 0 ∨ r = 1 ∨ r = 2 ∨ r = 3 ∨ r = 4 ∨ r = 5 := by omega
  · exact ⟨_, rfl, by simp⟩
  · exact ⟨_, rfl, by simp⟩
  · exact ⟨_, rfl, by simp⟩
  · exact ⟨_, rfl, by simp⟩
  · exact ⟨_, rfl, by simp⟩
  · exact ⟨_, rfl, by simp⟩
theorem pure_l_number (ds : List D) (μ : Mu) (Q : QE) (ex : Ex2) (h : sp_l_number ds μ Q ex) : t_l_number sp_l_take (ends Q) (startD ["a", "b"] ds) μ := by
  obtain ⟨s, m, rfl, hs, hm, q⟩ := h
  unfold t_l_number
  show jSeq _ _ (ends Q) [some _, none] μ
  walk_at "js"
  refine .f ?_
  walk_at "js"
  refine ⟨s, 6, m, rfl, hs, hm, by decide, fun r m' hm' h0 _ h6 => .of ?_⟩
  obtain ⟨v, e, hv⟩ := pick6 2 40 300 300 2000000000 ((10 : Int) ^ Int.toNat 30) h0 (h6 (by decide))
  refine x_ixL e ?_
  walk_at "js"
  have h30 : (10 : Int) ^ Int.toNat 30 = 10 ^ 30 := by decide
  rw [h30] at hv
  have hv2 : 2 ≤ v ∧ v ≤ 10 ^ 30 := by omega
  refine ⟨s, v, m', rfl, mup_same, hm', by omega, fun r2 m2 hm2 h02 _ h62 => .of (.of ?_)⟩
  rw [mup_mup]
  exact q r2 m2 hm2 h02 (by have := h62 hv2.1; omega)
def sp_l_up_to : Sp2 := fun ds μ Q _ => ∃ (s : Addr) (m : MO) (b : Int), ds = [.ref s, .int b] ∧ μ s = some m ∧ IsSt m ∧ 0 ≤ b ∧ b < 2 ^ 190 ∧ ∀ (r : Int) (m' : MO), IsSt m' → 0 ≤ r → r ≤ b → Q (.int r) (mup μ s m')
theorem len_l_up_to (ds : List D) (μ : Mu) (Q : QE) (ex : Ex2) (h : sp_l_up_to ds μ Q ex) : ds.length = 2 := by
  obtain ⟨s, m, b, rfl, _⟩ := h
  rfl
theorem pure_l_up_to (ds : List D) (μ : Mu) (Q : QE) (ex : Ex2) (h : sp_l_up_to ds μ Q ex) : t_l_up_to sp_l_take (ends Q) (startD ["a", "b", "c"] ds) μ := by
  obtain ⟨s, m, b, rfl, hs, hm, hb, hb2, q⟩ := h
  unfold t_l_up_to
  show jSeq _ _ (ends Q) [some _, some _, none] μ
  walk_at "js"
  refine ⟨s, 4, m, rfl, hs, hm, by decide, fun r m' hm' h0 _ h4 => .of ?_⟩
  have h4 := h4 (by decide)
  walk_at "js"
  refine w_ifd (fun hc => ?_) (fun hc => ?_)
  · walk_at "js"
    refine x_mulR (by omega) (.of (q _ m' hm' ?_ ?_))
    · exact Int.mul_nonneg hb h0
    · obtain rfl | rfl : r = 0 ∨ r = 1 := by omega
      · omega
      · omega
  · walk_at "js"
    refine ⟨s, b + 1, m', rfl, mup_same, hm', by omega, fun r2 m2 hm2 h02 h1 h62 => .of (.of ?_)⟩
    rw [mup_mup]
    refine q r2 m2 hm2 h02 ?_
    by_cases h : b + 1 < 2
    · rw [h1 h]; exact hb
    · have := h62 (by omega); omega
def sp_l_pick : Sp2 := fun ds μ Q _ => ∃ (s : Addr) (m : MO) (xs : List D), ds = [.ref s, .lst xs] ∧ μ s = some m ∧ IsSt m ∧ 0 < xs.length ∧ xs.length < 100000 ∧ ∀ (d : D) (m' : MO), IsSt m' → d ∈ xs → Q d (mup μ s m')
theorem len_l_pick (ds : List D) (μ : Mu) (Q : QE) (ex : Ex2) (h : sp_l_pick ds μ Q ex) : ds.length = 2 := by
  obtain ⟨s, m, xs, rfl, _⟩ := h
  rfl
theorem at_of {xs : List D} {r : Int} (h0 : 0 ≤ r) (h : r < xs.length) : ∃ d, d ∈ xs ∧ atI xs r = some d := by
  obtain ⟨k, rfl⟩ := Int.eq_ofNat_of_zero_le h0
  have hk : k < xs.length := by omega
  exact ⟨xs[k], List.getElem_mem hk, atI_some (List.getElem?_eq_getElem hk)⟩
theorem pure_l_pick (ds : List D) (μ : Mu) (Q : QE) (ex : Ex2) (h : sp_l_pick ds μ Q ex) : t_l_pick sp_l_take (ends Q) (startD ["a", "b"] ds) μ := by
  obtain ⟨s, m, xs, rfl, hs, hm, h0, hb, q⟩ := h
  unfold t_l_pick
  show jSeq _ _ (ends Q) [some _, some _] μ
  walk_at "js"
  refine w_ifd (fun hc => by omega) (fun hc => ?_)
  walk_at "js"
  refine ⟨s, xs.length, m, rfl, hs, hm, by omega, fun r m' hm' hr h1 h2 => .of ?_⟩
  have hr2 : r < xs.length := by
    by_cases h : (xs.length : Int) < 2
    · rw [h1 h]; omega
    · exact h2 (by omega)
  obtain ⟨d, hd, e⟩ := at_of hr hr2
  exact x_ixL e (.of (q d m' hm' hd))

/-! ### alike -/
def sp_l_alike : Sp2 := fun ds μ Q _ => (∃ i j : Int, ds = [.int i, .int j] ∧ Q (.bl (decide (i = j))) μ) ∨ ∃ a b : Bool, ds = [.bl a, .bl b] ∧ Q (.bl (decide (a = b))) μ
theorem len_l_alike (ds : List D) (μ : Mu) (Q : QE) (ex : Ex2) (h : sp_l_alike ds μ Q ex) : ds.length = 2 := by
  rcases h with ⟨i, j, rfl, _⟩ | ⟨i, j, rfl, _⟩ <;> rfl
theorem pure_l_alike (ds : List D) (μ : Mu) (Q : QE) (ex : Ex2) (h : sp_l_alike ds μ Q ex) : t_l_alike (fun _ _ _ _ => False) (ends Q) (startD ["a", "b", "c"] ds) μ := by
  rcases h with ⟨i, j, rfl, q⟩ | ⟨i, j, rfl, q⟩
  · unfold t_l_alike
    show jSeq _ _ (ends Q) [some _, some _, none] μ
    walk_at "js"
    refine w_false ?_
    walk_at "js"
    refine w_false ?_
    walk_at "js"
    refine w_false (w_false ?_)
    walk_at "js"
    refine w_false (w_false ?_)
    walk_at "js"
    refine ⟨false, rfl, w_false ?_⟩
    walk_at "js"
    refine ⟨false, rfl, w_false ?_⟩
    walk_at "js"
    refine w_false ?_
    walk_at "js"
    refine w_false ?_
    walk_at "js"
    refine w_true ?_
    walk_at "js"
    exact .of q
  · unfold t_l_alike
    show jSeq _ _ (ends Q) [some _, some _, none] μ
    walk_at "js"
    refine w_false ?_
    walk_at "js"
    refine w_false ?_
    walk_at "js"
    refine w_false (w_false ?_)
    walk_at "js"
    refine w_false (w_false ?_)
    walk_at "js"
    refine ⟨false, rfl, w_false ?_⟩
    walk_at "js"
    refine ⟨false, rfl, w_false ?_⟩
    walk_at "js"
    refine w_false ?_
    walk_at "js"
    refine w_false ?_
    walk_at "js"
    refine w_true ?_
    walk_at "js"
    exact .of q

/-! ### a table of the counts -/
def nms : List Str := ["cuts", "found", "joined", "parted", "puts", "rises", "splices", "takes"]
structure IsC (kvs : List (Key × D)) (c : Str → Int) : Prop where
  p : (kvs.map (·.1)).Perm (nms.map .inr)
  v : ∀ x ∈ nms, valD kvs (.inr x) = some (.int (c x))
def unK : Key → Str
  | .inl _ => ""
  | .inr x => x
theorem IsC.keys {kvs : List (Key × D)} {c : Str → Int} (h : IsC kvs c) : ∃ ks : List Str, ks.Perm nms ∧ (kvs.map fun kv => keyV kv.1) = ks.map D.str ∧ kvs.map (·.1) = ks.map .inr := by
  refine ⟨(kvs.map (·.1)).map unK, ?_, ?_, ?_⟩
  · have := h.p.map unK
    rw [List.map_map (l := nms)] at this
    exact this.trans (List.Perm.of_eq (by rfl))
  · rw [List.map_map, List.map_map]
    refine List.map_congr_left fun q hq => ?_
    obtain ⟨x, _, e⟩ := List.mem_map.mp (h.p.subset (List.mem_map_of_mem hq))
    show keyV q.1 = D.str (unK q.1)
    rw [← e]; rfl
  · rw [List.map_map, List.map_map]
    refine List.map_congr_left fun q hq => ?_
    obtain ⟨x, _, e⟩ := List.mem_map.mp (h.p.subset (List.mem_map_of_mem hq))
    show q.1 = Sum.inr (unK q.1)
    rw [← e]; rfl
theorem nms_sorted : sortedS nms = true := by decide +kernel
theorem IsC.sort {kvs : List (Key × D)} {c : Str → Int} (h : IsC kvs c) {μ : Mu} {Q : QE} (q : NewL (nms.map D.str) μ Q) : sorted1 [.lst (kvs.map fun kv => keyV kv.1)] μ Q := by
  obtain ⟨ks, hk, e, _⟩ := h.keys
  rw [e]
  exact x_sortedS (by rw [hk.length_eq]; decide) hk.symm nms_sorted q
theorem IsC.put {kvs : List (Key × D)} {c : Str → Int} (h : IsC kvs c) {x : Str} (hx : x ∈ nms) (i : Int) : IsC (putKD kvs (.inr x) (.int i)) fun y => if y = x then i else c y := by
  refine ⟨?_, fun y hy => ?_⟩
  · rw [keys_put_old (by rw [h.v x hx]; rfl)]; exact h.p
  · by_cases e : y = x
    · subst e; rw [if_pos rfl]; exact valD_put_same
    · rw [if_neg e, valD_put_ne (fun z => e (Sum.inr.inj z))]; exact h.v y hy
theorem IsC.len {kvs : List (Key × D)} {c : Str → Int} (h : IsC kvs c) : kvs.length = 8 := by
  have := h.p.length_eq
  simpa [nms] using this
def withinB (n : Nat) (c : Str → Int) : Bool :=
  (nms.map fun x => decide (c x ≥ 0)).all id && (decide (c "takes" ≤ c "puts") && (decide (c "joined" ≤ c "puts") && (decide (c "found" + c "parted" ≤ c "takes") && (decide (c "joined" ≥ c "parted") &&
  (decide (c "joined" - c "parted" ≤ mx 0 ((n : Int) - 1)) && (decide (c "rises" ≤ c "puts" * mx 0 (lgz n - 1)) && decide (c "cuts" + c "splices" ≤ 7 * c "puts" + 12 * mx 1 (lgz n - 0) * c "takes" + 7 * c "rises")))))))
theorem IsC.neg {n : Nat} {c : Str → Int} {x : Str} (hx : x ∈ nms) (h : c x < 0) : withinB n c = false := by
  have : (nms.map fun x => decide (c x ≥ 0)).all id = false := by
    rw [List.all_eq_false]
    exact ⟨decide (c x ≥ 0), List.mem_map_of_mem hx, by simp; omega⟩
  unfold withinB
  rw [this, Bool.false_and]
/-! ### is_within -/
def sp_is_within : Sp2 := fun ds μ Q _ => ∃ (n : Nat) (d : D) (kvs : List (Key × D)) (c : Str → Int), ds = [.int n, d] ∧ DctAt μ d kvs ∧ IsC kvs c ∧ n < 64 ∧ Q (.bl (withinB n c)) μ
theorem len_is_within (ds : List D) (μ : Mu) (Q : QE) (ex : Ex2) (h : sp_is_within ds μ Q ex) : ds.length = 2 := by
  obtain ⟨n, d, kvs, c, rfl, _⟩ := h
  rfl
def ckeys : List Str := ["puts", "takes", "rises", "found", "joined", "parted", "cuts", "splices"]
theorem all_nms {c : Str → Int} (h : ∀ x ∈ ckeys, 0 ≤ c x) : (nms.map fun x => decide (c x ≥ 0)).all id = true := by
  rw [List.all_eq_true]
  intro b hb
  obtain ⟨x, hx, rfl⟩ := List.mem_map.mp hb
  have : x ∈ ckeys := (by decide +kernel : ∀ x ∈ nms, x ∈ ckeys) x hx
  simp [h x this]
theorem pure_is_within (ds : List D) (μ : Mu) (Q : QE) (ex : Ex2) (h : sp_is_within ds μ Q ex) : t_is_within sp_rise_bound sp_step_bound (ends Q) (startD ["a", "b", "c", "d", "e", "f", "g"] ds) μ := by
  obtain ⟨n, d, kvs, c, rfl, hx, hc, hn, q⟩ := h
  unfold t_is_within
  show jSeq _ _ (ends Q) [some _, some _, none, none, none, none, none] μ
  walk_at "js"
  refine ⟨_, rfl, ?_⟩
  refine loop_inv (fun r δ μ' => μ' = μ ∧ ∃ (dn ks : List Str) (o : Option D), dn ++ ks = ckeys ∧ r = ks.map D.str ∧ (∀ x ∈ dn, 0 ≤ c x) ∧ δ = [some (.int n), some d, o, none, none, none, none]) (fun _ _ _ _ => trivial) ?_ ?_ _ _ _ ⟨rfl, [], ckeys, none, rfl, rfl, fun _ h => (List.not_mem_nil h).elim, rfl⟩
  · rintro x r δ μ' ⟨rfl, dn, ks, o, hk, hr, hd, rfl⟩ QN hN
    cases ks with
    | nil => cases hr
    | cons y ks =>
      cases hr
      have hy : y ∈ nms := (by decide +kernel : ∀ x ∈ ckeys, x ∈ nms) y (by rw [← hk]; simp)
      walk_at "js"
      refine x_ixDA hx rfl (hc.v y hy) ?_
      walk_at "js"
      refine w_ifd (fun hc2 => ?_) (fun hc2 => ?_)
      · walk_at "js"
        rw [IsC.neg hy hc2] at q
        exact .of q
      · walk_at "js"
        refine hN _ _ ⟨rfl, dn ++ [y], ks, _, by rw [← hk]; simp, rfl, ?_, rfl⟩
        intro z hz
        rcases List.mem_append.mp hz with h | h
        · exact hd z h
        · rw [List.mem_singleton.mp h]; omega
  · rintro δ μ' ⟨rfl, dn, ks, o, hk, hr, hd, rfl⟩
    have hks : ks = [] := by cases ks with
      | nil => rfl
      | cons => cases hr
    subst hks
    rw [List.append_nil] at hk
    subst hk
    have hall := all_nms hd
    unfold withinB at q
    rw [hall, Bool.true_and] at q
    walk_at "js"
    refine x_ixDA hx rfl (hc.v _ (by decide +kernel)) ?_
    walk_at "js"
    refine x_ixDA hx rfl (hc.v _ (by decide +kernel)) ?_
    walk_at "js"
    refine x_ixDA hx rfl (hc.v _ (by decide +kernel)) ?_
    walk_at "js"
    refine ⟨rfl, ?_⟩
    refine x_nx (by assumption) ?_
    show jSeq _ _ _ [some _, some _, o, some _, some _, some _, none] _
    walk_at "js"
    refine w_ifd (fun h1 => ?_) (fun h1 => ?_)
    · rw [decide_eq_false (by omega : ¬ c "takes" ≤ c "puts")] at q
      exact w_true (by walk_at "js"; exact .of q)
    rw [decide_eq_true (by omega : c "takes" ≤ c "puts"), Bool.true_and] at q
    walk_at "js"
    refine x_ixDA hx rfl (hc.v _ (by decide +kernel)) ?_
    walk_at "js"
    refine w_ifd (fun h2 => ?_) (fun h2 => ?_)
    · rw [decide_eq_false (by omega : ¬ c "joined" ≤ c "puts")] at q
      walk_at "js"; exact .of q
    rw [decide_eq_true (by omega : c "joined" ≤ c "puts"), Bool.true_and] at q
    walk_at "js"
    refine x_ixDA hx rfl (hc.v _ (by decide +kernel)) ?_
    walk_at "js"
    refine x_ixDA hx rfl (hc.v _ (by decide +kernel)) ?_
    walk_at "js"
    refine w_ifd (fun h3 => ?_) (fun h3 => ?_)
    · rw [decide_eq_false (by omega : ¬ c "found" + c "parted" ≤ c "takes")] at q
      walk_at "js"; exact .of q
    rw [decide_eq_true (by omega : c "found" + c "parted" ≤ c "takes"), Bool.true_and] at q
    walk_at "js"
    refine x_ixDA hx rfl (hc.v _ (by decide +kernel)) ?_
    walk_at "js"
    refine x_ixDA hx rfl (hc.v _ (by decide +kernel)) ?_
    walk_at "js"
    refine w_ifd (fun h4 => ?_) (fun h4 => ?_)
    · rw [decide_eq_false (by omega : ¬ c "joined" ≥ c "parted")] at q
      exact w_true (by walk_at "js"; exact .of q)
    rw [decide_eq_true (by omega : c "joined" ≥ c "parted"), Bool.true_and] at q
    walk_at "js"
    refine w_ifd (fun h5 => ?_) (fun h5 => ?_)
    · have h5' : ¬ c "joined" - c "parted" ≤ mx 0 ((n : Int) - 1) := Int.not_le.mpr h5
      rw [decide_eq_false h5'] at q
      walk_at "js"; exact .of q
    have h5' : c "joined" - c "parted" ≤ mx 0 ((n : Int) - 1) := Int.not_lt.mp h5
    rw [decide_eq_true h5', Bool.true_and] at q
    walk_at "js"
    refine ⟨n, c "puts", rfl, hn, .of ?_⟩
    walk_at "js"
    refine w_ifd (fun h6 => ?_) (fun h6 => ?_)
    · rw [decide_eq_false (Int.not_le.mpr h6)] at q
      walk_at "js"; exact .of q
    rw [decide_eq_true (Int.not_lt.mp h6), Bool.true_and] at q
    walk_at "js"
    refine x_ixDA hx rfl (hc.v _ (by decide +kernel)) ?_
    walk_at "js"
    refine x_ixDA hx rfl (hc.v _ (by decide +kernel)) ?_
    walk_at "js"
    refine ⟨n, c "puts", c "takes", c "rises", rfl, hn, .of ?_⟩
    walk_at "js"
    exact .of q

/-! ### the highest level -/
def hiP (n : Nat) (k : Int) : Bool := decide (k = 0) || decide (2 * 2 ^ (k - 1).toNat ≤ (n : Int))
def hiL (n : Nat) : List Int := [0, 1, 2, 3, 4, 5].filter (hiP n)
def hiF (n : Nat) : D → Option D
  | .int k => if hiP n k = true then some (.int k) else none
  | _ => none
theorem hiF_list (n : Nat) : ∀ l : List Int, (l.map D.int).filterMap (hiF n) = (l.filter (hiP n)).map D.int
  | [] => rfl
  | k :: r => by
    rw [List.map_cons, List.filterMap_cons, List.filter_cons]
    cases h : hiP n k with
    | true =>
      have e : hiF n (.int k) = some (.int k) := if_pos h
      rw [e, if_pos rfl, List.map_cons, hiF_list n r]
    | false =>
      have e : hiF n (.int k) = none := if_neg (by rw [h]; exact Bool.false_ne_true)
      rw [e, if_neg Bool.false_ne_true, hiF_list n r]
theorem hi_max : ∀ n : Fin 64, ∀ m ∈ hiL n.1, (∀ y ∈ hiL n.1, y ≤ m) → m = ((Nat.log2 n.1 : Nat) : Int) := by decide +kernel
theorem hi_pos (n : Nat) : 0 < (hiL n).length := by
  have : (0 : Int) ∈ hiL n := List.mem_filter.mpr ⟨by simp, rfl⟩
  exact List.length_pos_of_mem this
theorem hi_1 {n : Nat} (hn : n < 64) {μ : Mu} {Q : QE} (q : Q (.int (lgz n)) μ) : max1 [.lst ((rngD 0 6).filterMap (hiF n))] μ Q := by
  have e : (rngD 0 6).filterMap (hiF n) = (hiL n).map D.int := hiF_list n [0, 1, 2, 3, 4, 5]
  rw [e]
  exact x_maxL (hi_pos n) fun m h1 h2 => by rw [hi_max ⟨n, hn⟩ m h1 h2]; exact q
theorem hi_x {n : Nat} {x : D} (hx : x ∈ rngD 0 6) : ∃ k : Nat, x = .int k ∧ k < 6 := by
  obtain ⟨i, hi, rfl⟩ := List.mem_map.mp hx
  exact ⟨i, by simp, by simpa using hi⟩
theorem hi_in {n k : Nat} {Y : D → Mu → Prop} {Nn : Mu → Prop} {μ : Mu} (hY : ∀ y, hiF n (.int k) = some y → Y y μ) (hN : hiF n (.int k) = none → Nn μ) :
    (k = 0 → Y (.int k) μ) ∧ (k ≠ 0 → if decide (2 * 2 ^ (k - 1) ≤ (n : Int)) = true then Y (.int k) μ else Nn μ) := by
  constructor
  · intro h; subst h
    exact hY _ (if_pos (c := hiP n ((0 : Nat) : Int) = true) (e := none) rfl)
  · intro h
    have e : hiP n k = decide (2 * 2 ^ (k - 1) ≤ (n : Int)) := by
      unfold hiP
      rw [decide_eq_false (by omega : ¬ (k : Int) = 0), Bool.false_or]
      have e2 : ((k : Int) - 1).toNat = k - 1 := by omega
      rw [e2]
    refine w_if (fun h2 => hY _ ?_) (fun h2 => hN ?_)
    · exact if_pos (e.trans h2)
    · exact if_neg (by rw [e, h2]; exact Bool.false_ne_true)
/-! ### the law's own sentences -/
def sp_l_sentences : Sp2 := fun ds μ Q _ => ∃ (n : Nat) (d : D) (kvs : List (Key × D)) (c : Str → Int), ds = [.int n, d] ∧ DctAt μ d kvs ∧ IsC kvs c ∧ n < 64 ∧ ∀ bs : List Bool, bs.all id = withinB n c → Q (.lst (bs.map D.bl)) μ
theorem len_l_sentences (ds : List D) (μ : Mu) (Q : QE) (ex : Ex2) (h : sp_l_sentences ds μ Q ex) : ds.length = 2 := by
  obtain ⟨n, d, kvs, c, rfl, _⟩ := h
  rfl
theorem pure_l_sentences (ds : List D) (μ : Mu) (Q : QE) (ex : Ex2) (h : sp_l_sentences ds μ Q ex) : t_l_sentences sp_l_double (ends Q) (startD ["a", "b", "c", "d", "e", "f", "g", "h"] ds) μ := by
  obtain ⟨n, d, kvs, c, rfl, hx, hc, hn, q⟩ := h
  have g : ∀ x : Str, x ∈ nms → ∀ (Q : QE), Q (.int (c x)) μ → ix2 d (.str x) μ Q := fun x hm Q q => x_ixDA hx rfl (hc.v x hm) q
  unfold t_l_sentences
  show jSeq _ _ (ends Q) [some _, some _, none, none, none, none, none, none] μ
  walk_at "js"
  refine ⟨6, rfl, by unfold rngOk; omega, ?_⟩
  refine lc_fm (hiF n) _ (by decide) (fun x hx2 Y Nn hY hN => ?_) (.f ?_)
  · obtain ⟨k, rfl, hk⟩ := hi_x (n := n) hx2
    obtain ⟨h1, h2⟩ := hi_in hY hN
    walk_at "js"
    refine w_ifd (fun hz => ?_) (fun hz => ?_)
    · refine w_true ?_
      walk_at "js"
      exact h1 (by omega)
    · walk_at "js"
      have e : ((k : Int) - 1) = ((k - 1 : Nat) : Int) := by omega
      refine ⟨k - 1, by show [D.int ((k : Int) - 1)] = _; rw [e], by omega, .of ?_⟩
      walk_at "js"
      refine w_if (fun h3 => ?_) (fun h3 => ?_)
      · walk_at "js"
        have := h2 (by omega)
        rw [if_pos h3] at this
        exact this
      · have := h2 (by omega)
        rw [if_neg (by rw [h3]; exact Bool.false_ne_true)] at this
        exact this
  walk_at "js"
  refine hi_1 hn ?_
  have hm0 := mx_lt (a := 0) (b := 1) hn (by omega) (by omega) (by omega) (by omega)
  have hm1 := mx_lt (a := 1) (b := 0) hn (by omega) (by omega) (by omega) (by omega)
  walk_at "js"
  refine g _ (by decide +kernel) _ ?_
  walk_at "js"
  refine x_mulR (by unfold mx at hm0; omega) ?_
  walk_at "js"
  refine g _ (by decide +kernel) _ ?_
  walk_at "js"
  refine g _ (by decide +kernel) _ ?_
  walk_at "js"
  refine x_mulR (by unfold mx at hm1; simp only [Int.sub_zero] at hm1; omega) ?_
  walk_at "js"
  refine g _ (by decide +kernel) _ ?_
  walk_at "js"
  refine x_listDA hx (.f ?_)
  walk_at "js"
  refine hc.sort (.f ?_)
  walk_at "js"
  refine lc_map (fun x => match x with | .str x => .bl (decide (c x ≥ 0)) | _ => .non) _ (by decide) (fun x hx2 Y hY => ?_) (.f ?_)
  · obtain ⟨y, hy, rfl⟩ := List.mem_map.mp hx2
    walk_at "js"
    refine g _ hy _ ?_
    walk_at "js"
    exact hY
  have e1 : (nms.map D.str).map (fun x => match x with | .str x => D.bl (decide (c x ≥ 0)) | _ => .non) = (nms.map fun x => decide (c x ≥ 0)).map D.bl := by
    rw [List.map_map, List.map_map]; rfl
  rw [e1]
  walk_at "js"
  repeat (first | (refine g _ (by decide +kernel) _ ?_) | (refine .f ?_) | (refine x_addL (by walk_at "sz") ?_) | walk_at "j")
  have e2 : ∀ (as bs : List Bool), as.map D.bl ++ bs.map D.bl = (as ++ bs).map D.bl := fun as bs => by simp
  have a2 : ∀ a b : Bool, [D.bl a, .bl b] = [a, b].map D.bl := fun _ _ => rfl
  have a1 : ∀ a : Bool, [D.bl a] = [a].map D.bl := fun _ => rfl
  rw [a2, a2, a2, a1, e2, e2, e2, e2]
  refine .of (q _ ?_)
  have e3 : c "puts" * 7 + c "takes" * 12 * (if lgz n > 1 then lgz n else 1) + c "rises" * 7 = 7 * c "puts" + 12 * mx 1 (lgz n - 0) * c "takes" + 7 * c "rises" := by
    unfold mx
    rw [Int.sub_zero]
    generalize (if lgz n > 1 then lgz n else 1) = z
    have : c "takes" * 12 * z = 12 * z * c "takes" := by rw [Int.mul_comm (c "takes") 12, Int.mul_assoc, Int.mul_comm (c "takes") z, ← Int.mul_assoc]
    omega
  rw [e3]
  unfold withinB mx
  rw [List.all_append, List.all_append, List.all_append, List.all_append]
  simp only [List.all_cons, List.all_nil, id, Bool.and_true, Bool.and_assoc]

/-! ### a shuffled list -/
def sp_l_shuffled : Sp2 := fun ds μ Q _ => ∃ (s : Addr) (m : MO) (xs : List D), ds = [.ref s, .lst xs] ∧ μ s = some m ∧ IsSt m ∧ xs.length < 100000 ∧ ∀ (ys : List D) (m' : MO), ys.Perm xs → IsSt m' → Q (.lst ys) (mup μ s m')
theorem len_l_shuffled (ds : List D) (μ : Mu) (Q : QE) (ex : Ex2) (h : sp_l_shuffled ds μ Q ex) : ds.length = 2 := by
  obtain ⟨s, m, xs, rfl, _⟩ := h
  rfl
theorem swap_perm {xs : List D} {i j : Nat} {x y : D} (hi : xs[i]? = some x) (hj : xs[j]? = some y) : ((xs.set i y).set j x).Perm xs := by
  obtain ⟨h1, e1⟩ := List.getElem?_eq_some_iff.mp hi
  obtain ⟨h2, e2⟩ := List.getElem?_eq_some_iff.mp hj
  subst e1 e2
  exact List.set_set_perm h1 h2
theorem pure_l_shuffled (ds : List D) (μ : Mu) (Q : QE) (ex : Ex2) (h : sp_l_shuffled ds μ Q ex) : t_l_shuffled sp_l_take (ends Q) (startD ["a", "b", "c", "d", "e", "f", "g"] ds) μ := by
  obtain ⟨s, m, xs, rfl, hs, hm, hl, q⟩ := h
  unfold t_l_shuffled
  show jSeq _ _ (ends Q) [some _, some _, none, none, none, none, none] μ
  walk_at "js"
  refine .m fun p hp => ?_
  have hsp : s ≠ p := fun z => by rw [z, hp] at hs; cases hs
  walk_at "js"
  refine ⟨s, 6, m, rfl, (mup_ne hsp).trans hs, hm, by decide, fun r m1 hm1 h0 _ h6 => .of ?_⟩
  have fin : ∀ (ys : List D) (m' : MO), ys.Perm xs → IsSt m' → Q (.lst ys) (mdel (mup (mup μ p (.lst ys)) s m') p) := by
    intro ys m' hp2 hm'
    rw [mup_comm (Ne.symm hsp), mdel_mup ((mup_ne (Ne.symm hsp)).trans hp)]
    exact q ys m' hp2 hm'
  have hpp : ∀ (ys : List D) (m' : MO), (mup (mup μ p (.lst ys)) s m') p = some (.lst ys) := fun ys m' => (mup_ne (Ne.symm hsp)).trans mup_same
  walk_at "js"
  refine w_ifd (fun hc => ?_) (fun hc => ?_)
  · walk_at "js"
    exact .lst (hpp _ _) (fin _ _ (.refl _) hm1)
  walk_at "js"
  refine w_ifd (fun hc2 => ?_) (fun hc2 => ?_)
  · walk_at "js"
    refine ⟨xs, .m (hpp _ _), .f ?_⟩
    refine .drop (μ' := mup μ s m1) ?_ (q _ _ (List.reverse_perm xs) hm1)
    intro a o e
    by_cases ha : a = s
    · subst ha; rw [mup_same] at e; rw [mup_same]; exact e
    · rw [mup_ne ha] at e
      have hap : a ≠ p := fun z => by rw [z, hp] at e; cases e
      rw [mup_ne ha, mup_ne hap]; exact e
  walk_at "js"
  refine ⟨_, rfl, by unfold rngOk; omega, ?_⟩
  refine loop_rng (fun k δ μ' => ∃ (ys : List D) (m' : MO) (o u v : Option D), ys.Perm xs ∧ IsSt m' ∧ μ' = mup (mup μ p (.lst ys)) s m' ∧ δ = [some (.ref s), some (.lst xs), some (.ref p), some (.int r), o, u, v])
    (fun _ _ _ _ => trivial) ?_ ?_ _ _ ⟨xs, m1, none, none, none, .refl _, hm1, rfl, rfl⟩
  · rintro k δ μ' hk ⟨ys, m', o, u, v, hp2, hm', rfl, rfl⟩ QN hN
    have hyl : ys.length = xs.length := hp2.length_eq
    walk_at "js"
    refine ⟨s, _, m', rfl, mup_same, hm', by omega, fun r2 m2 hm2 h02 h1 h2 => .of ?_⟩
    rw [mup_mup]
    have hr2 : r2 < (xs.length : Int) - k := by
      by_cases h : (ys.length : Int) - (k : Int) < 2
      · rw [h1 h]; omega
      · have := h2 (by omega); omega
    obtain ⟨j, rfl⟩ := Int.eq_ofNat_of_zero_le h02
    have hkl : k < ys.length := by omega
    have hjl : k + j < ys.length := by omega
    have e1 : atI ys (k : Int) = some ys[k] := atI_some (List.getElem?_eq_getElem hkl)
    have e2 : atI ys ((k : Int) + (j : Int)) = some ys[k + j] := by
      have := atI_some (List.getElem?_eq_getElem hjl)
      exact this
    walk_at "js"
    refine x_ixM (hpp _ _) e1 ?_
    walk_at "js"
    refine x_ixM (hpp _ _) e2 ?_
    walk_at "js"
    refine x_setL (hpp _ _) (ixN_nat hkl) ?_
    have e3 : ∀ (o : MO), mup (mup (mup μ p (.lst ys)) s m2) p o = mup (mup μ p o) s m2 := fun o => by rw [mup_comm hsp, mup_mup]
    rw [e3]
    walk_at "js"
    refine x_setL (hpp _ _) (by exact ixN_nat (n := (ys.set k ys[k + j]).length) (k := k + j) (by rw [List.length_set]; exact hjl)) ?_
    have e4 : ∀ (o o2 : MO), mup (mup (mup μ p o2) s m2) p o = mup (mup μ p o) s m2 := fun o o2 => by rw [mup_comm hsp, mup_mup]
    rw [e4]
    exact hN _ _ ⟨_, m2, _, _, _, (swap_perm (List.getElem?_eq_getElem hkl) (List.getElem?_eq_getElem hjl)).trans hp2, hm2, rfl, rfl⟩
  · rintro δ μ' ⟨ys, m', o, u, v, hp2, hm', rfl, rfl⟩
    walk_at "js"
    exact .lst (hpp _ _) (fin _ _ hp2 hm')

/-! ### counts that keep the bounds -/
def sp_l_good_counts : Sp2 := fun ds μ Q _ => ∃ (s : Addr) (m : MO) (n : Nat), ds = [.ref s, .int n] ∧ μ s = some m ∧ IsSt m ∧ n < 64 ∧ ∀ (kvs : List (Key × D)) (c : Str → Int) (m' : MO), IsSt m' → IsC kvs c → withinB n c = true → Q (.dct kvs) (mup μ s m')
theorem len_l_good_counts (ds : List D) (μ : Mu) (Q : QE) (ex : Ex2) (h : sp_l_good_counts ds μ Q ex) : ds.length = 2 := by
  obtain ⟨s, m, n, rfl, _⟩ := h
  rfl
theorem mul5 {a b : Int} (ha : 0 ≤ a) (hb : 0 ≤ b) (hb5 : b ≤ 5) : 0 ≤ a * b ∧ a * b ≤ 5 * a := by
  refine ⟨Int.mul_nonneg ha hb, ?_⟩
  have := Int.mul_le_mul_of_nonneg_left hb5 ha
  omega
/-- the table that is built, and what was put in -/
def gcT (p t r f j a c d : Int) : List (Key × D) := [(.inr "puts", .int p), (.inr "takes", .int t), (.inr "rises", .int r), (.inr "found", .int f), (.inr "joined", .int j), (.inr "parted", .int a), (.inr "cuts", .int c), (.inr "splices", .int d)]
def gcC (p t r f j a c d : Int) : Str → Int := fun x => if x = "puts" then p else if x = "takes" then t else if x = "rises" then r else if x = "found" then f else if x = "joined" then j else if x = "parted" then a else if x = "cuts" then c else d
theorem gc_merge (p t r f j a c d : Int) : mergeD (mergeD [] [(.inr "puts", .int p), (.inr "takes", .int t), (.inr "rises", .int r), (.inr "found", .int f), (.inr "joined", .int j), (.inr "parted", .int a)]) (mergeD [] [(.inr "cuts", .int c), (.inr "splices", .int d)]) = gcT p t r f j a c d := by rfl
theorem gc_is (p t r f j a c d : Int) : IsC (gcT p t r f j a c d) (gcC p t r f j a c d) := by
  refine ⟨?_, ?_⟩
  · show ([.inr "puts", .inr "takes", .inr "rises", .inr "found", .inr "joined", .inr "parted", .inr "cuts", .inr "splices"] : List Key).Perm _
    decide +kernel
  · intro x hx
    simp only [nms, List.mem_cons, List.not_mem_nil, or_false] at hx
    rcases hx with rfl | rfl | rfl | rfl | rfl | rfl | rfl | rfl <;> rfl
theorem gc_within {n : Nat} {p t r f j a c st b : Int} (hp : 0 ≤ p) (ht : 0 ≤ t) (ht2 : t ≤ p) (hf : 0 ≤ f) (hf2 : f ≤ t) (ha : 0 ≤ a) (ha2 : a ≤ t - f) (hj : a ≤ j) (hj2 : j ≤ p) (hj3 : j ≤ a + b) (hb : b ≤ (if (n : Int) - 1 > 0 then (n : Int) - 1 else 0))
    (hr : 0 ≤ r) (hr2 : r ≤ p * mx 0 (lgz n - 1)) (hs : st ≤ p * 7 + t * 12 * mx 1 (lgz n) + r * 7) (hc : 0 ≤ c) (hc2 : c ≤ st) : withinB n (gcC p t r f j a c (st - c)) = true := by
  have e1 : gcC p t r f j a c (st - c) "puts" = p := rfl
  have e2 : gcC p t r f j a c (st - c) "takes" = t := rfl
  have e3 : gcC p t r f j a c (st - c) "rises" = r := rfl
  have e4 : gcC p t r f j a c (st - c) "found" = f := rfl
  have e5 : gcC p t r f j a c (st - c) "joined" = j := rfl
  have e6 : gcC p t r f j a c (st - c) "parted" = a := rfl
  have e7 : gcC p t r f j a c (st - c) "cuts" = c := rfl
  have e8 : gcC p t r f j a c (st - c) "splices" = st - c := rfl
  have hall : ∀ x ∈ ckeys, 0 ≤ gcC p t r f j a c (st - c) x := by
    intro x hx
    simp only [ckeys, List.mem_cons, List.not_mem_nil, or_false] at hx
    rcases hx with rfl | rfl | rfl | rfl | rfl | rfl | rfl | rfl
    · rw [e1]; exact hp
    · rw [e2]; exact ht
    · rw [e3]; exact hr
    · rw [e4]; exact hf
    · rw [e5]; omega
    · rw [e6]; exact ha
    · rw [e7]; exact hc
    · rw [e8]; omega
  unfold withinB
  rw [all_nms hall, e1, e2, e3, e4, e5, e6, e7, e8, Int.sub_zero]
  have hx : t * 12 * mx 1 (lgz n) = 12 * mx 1 (lgz n) * t := by rw [Int.mul_comm t 12, Int.mul_assoc, Int.mul_comm t, ← Int.mul_assoc]
  have hm : j - a ≤ mx 0 ((n : Int) - 1) := by
    unfold mx
    omega
  rw [decide_eq_true ht2, decide_eq_true hj2, decide_eq_true (show f + a ≤ t by omega), decide_eq_true (show j ≥ a from hj), decide_eq_true hm, decide_eq_true hr2, decide_eq_true (by omega)]
  rfl
def tabF (c : Str → Int) (ks : List Str) : List (Key × D) := ks.map fun x => (.inr x, .int (c x))
theorem tabF_len {c : Str → Int} {ks : List Str} : (tabF c ks).length = ks.length := List.length_map ..
theorem tabF_snoc {c : Str → Int} {ks : List Str} {x : Str} : tabF c ks ++ [(.inr x, .int (c x))] = tabF c (ks ++ [x]) := by simp [tabF]
theorem tabF_none {c : Str → Int} {x : Str} : ∀ {ks : List Str}, x ∉ ks → valD (tabF c ks) (.inr x) = none
  | [], _ => rfl
  | y :: r, h => by
    have h1 : ¬ (Sum.inr y : Key) = .inr x := fun z => h (by rw [Sum.inr.inj z]; exact List.mem_cons_self ..)
    show valD ((.inr y, .int (c y)) :: tabF c r) (.inr x) = none
    rw [valD_neg (p := (.inr y, .int (c y))) h1]
    exact tabF_none fun z => h (List.mem_cons_of_mem _ z)
theorem tabF_some {c : Str → Int} {x : Str} : ∀ {ks : List Str}, x ∈ ks → valD (tabF c ks) (.inr x) = some (.int (c x))
  | [], h => (List.not_mem_nil h).elim
  | y :: r, h => by
    show valD ((.inr y, .int (c y)) :: tabF c r) (.inr x) = _
    by_cases e : y = x
    · subst e; exact valD_pos rfl
    · rw [valD_neg (p := (.inr y, .int (c y))) (fun z => e (Sum.inr.inj z))]
      rcases List.mem_cons.mp h with h | h
      · exact (e h.symm).elim
      · exact tabF_some h
theorem tabF_is {c : Str → Int} {ks : List Str} (h : ks.Perm nms) : IsC (tabF c ks) c := by
  refine ⟨?_, fun x hx => tabF_some (h.symm.subset hx)⟩
  have : (tabF c ks).map (·.1) = ks.map .inr := by unfold tabF; rw [List.map_map]; rfl
  rw [this]
  exact h.map _
def unD : D → Str
  | .str x => x
  | _ => ""
theorem perm_strs {ys : List D} {xs : List Str} (h : ys.Perm (xs.map D.str)) : ∃ ks : List Str, ks.Perm xs ∧ ys = ks.map D.str := by
  refine ⟨ys.map unD, ?_, ?_⟩
  · have := h.map unD
    rw [List.map_map] at this
    exact this.trans (List.Perm.of_eq ((List.map_congr_left (g := id) (fun _ _ => rfl)).trans (List.map_id _)))
  · rw [List.map_map]
    refine Eq.symm ((List.map_congr_left (g := id) fun q hq => ?_).trans (List.map_id _))
    obtain ⟨x, _, rfl⟩ := List.mem_map.mp (h.subset hq)
    rfl
set_option maxHeartbeats 2000000 in
theorem pure_l_good_counts (ds : List D) (μ : Mu) (Q : QE) (ex : Ex2) (h : sp_l_good_counts ds μ Q ex) : t_l_good_counts sp_l_number sp_l_up_to sp_l_shuffled sp_l_double (ends Q) (startD ["a", "b", "c", "d", "e", "f", "g", "h", "i", "j", "k", "l", "m", "n", "o"] ds) μ := by
  obtain ⟨s, m, n, rfl, hs, hm, hn, q⟩ := h
  unfold t_l_good_counts
  show jSeq _ _ (ends Q) [some _, some _, none, none, none, none, none, none, none, none, none, none, none, none, none] μ
  walk_at "js"
  refine ⟨s, m, rfl, hs, hm, fun p m1 hm1 hp hp2 => .of ?_⟩
  walk_at "js"
  refine ⟨s, m1, p, rfl, mup_same, hm1, hp, by omega, fun t m2 hm2 ht ht2 => .of ?_⟩
  rw [mup_mup]
  walk_at "js"
  refine ⟨s, m2, t, rfl, mup_same, hm2, ht, by omega, fun f m3 hm3 hf hf2 => .of ?_⟩
  rw [mup_mup]
  walk_at "js"
  refine ⟨s, m3, t - f, rfl, mup_same, hm3, by omega, by omega, fun a m4 hm4 ha ha2 => .of ?_⟩
  rw [mup_mup]
  walk_at "js"
  refine ⟨s, m4, _, rfl, mup_same, hm4, by split <;> omega, by split <;> omega, fun b m5 hm5 hb hb2 => .of ?_⟩
  rw [mup_mup]
  walk_at "js"
  refine ⟨6, rfl, by unfold rngOk; omega, ?_⟩
  refine lc_fm (hiF n) _ (by decide) (fun x hx2 Y Nn hY hN => ?_) (.f ?_)
  · obtain ⟨k, rfl, hk⟩ := hi_x (n := n) hx2
    obtain ⟨h1, h2⟩ := hi_in hY hN
    walk_at "js"
    refine w_ifd (fun hz => ?_) (fun hz => ?_)
    · refine w_true ?_
      walk_at "js"
      exact h1 (by omega)
    · walk_at "js"
      have e : ((k : Int) - 1) = ((k - 1 : Nat) : Int) := by omega
      refine ⟨k - 1, by show [D.int ((k : Int) - 1)] = _; rw [e], by omega, .of ?_⟩
      walk_at "js"
      refine w_if (fun h3 => ?_) (fun h3 => ?_)
      · walk_at "js"
        have := h2 (by omega)
        rw [if_pos h3] at this
        exact this
      · have := h2 (by omega)
        rw [if_neg (by rw [h3]; exact Bool.false_ne_true)] at this
        exact this
  walk_at "js"
  refine hi_1 hn ?_
  have hm0 := mx_lt (a := 0) (b := 1) hn (by omega) (by omega) (by omega) (by omega)
  have hm9 := mx_lt (a := 1) (b := 0) hn (by omega) (by omega) (by omega) (by omega)
  rw [Int.sub_zero] at hm9
  walk_at "js"
  refine x_mulR (by unfold mx at hm0; omega) ?_
  walk_at "js"
  change sp_l_up_to ([.ref s, .int (p * mx 0 (lgz n - 1))] ++ []) _ _ _
  have hb1 := mul5 hp hm0.1 hm0.2
  refine ⟨s, m5, _, rfl, mup_same, hm5, hb1.1, by omega, fun r m6 hm6 hr hr2 => .of ?_⟩
  rw [mup_mup]
  walk_at "js"
  refine x_mulR (by unfold mx at hm9; omega) ?_
  walk_at "js"
  change sp_l_up_to ([.ref s, .int (p * 7 + t * 12 * mx 1 (lgz n) + r * 7)] ++ []) _ _ _
  have hb3 := mul5 (show 0 ≤ t * 12 by omega) hm9.1 hm9.2
  refine ⟨s, m6, _, rfl, mup_same, hm6, by omega, by omega, fun st m7 hm7 hst hst2 => .of ?_⟩
  rw [mup_mup]
  walk_at "js"
  refine ⟨s, m7, st, rfl, mup_same, hm7, hst, by omega, fun cu m8 hm8 hcu hcu2 => .of ?_⟩
  rw [mup_mup]
  walk_at "js"
  have hj : a ≤ (if a + b < p then a + b else p) ∧ (if a + b < p then a + b else p) ≤ p ∧ (if a + b < p then a + b else p) ≤ a + b := by split <;> omega
  generalize (if a + b < p then a + b else p) = j at *
  have hw : withinB n (gcC p t r f j a cu (st - cu)) = true := gc_within hp ht ht2 hf hf2 ha ha2 hj.1 hj.2.1 hj.2.2 hb2 hr hr2 hst2 hcu hcu2
  have his := gc_is p t r f j a cu (st - cu)
  refine ⟨_, rfl, (by show (6 : Nat) ≤ 15; decide), .m fun pd hpd => ?_⟩
  have h1 : s ≠ pd := fun z => by rw [z, mup_same] at hpd; cases hpd
  have hpd0 : μ pd = none := by rw [mup_ne (Ne.symm h1)] at hpd; exact hpd
  walk_at "js"
  refine ⟨_, rfl, (by show (2 : Nat) ≤ 15; decide), .f ?_⟩
  walk_at "js"
  refine ⟨_, _, mup_same, .f, (fun z => by cases z), (by walk_at "sz"), ?_⟩
  rw [mup_mup]
  walk_at "js"
  refine .m fun pc hpc => ?_
  have h2 : s ≠ pc := fun z => by rw [← z, mup_ne h1, mup_same] at hpc; cases hpc
  have h3 : pd ≠ pc := fun z => by rw [← z, mup_same] at hpc; cases hpc
  have hpc0 : μ pc = none := by rw [mup_ne (Ne.symm h3), mup_ne (Ne.symm h2)] at hpc; exact hpc
  change kName _ _ _ (mup (mup (mup μ s m8) pd (.dct (gcT p t r f j a cu (st - cu)))) pc (.dct [])) _
  have hcm : ∀ m9 T C, mup (mup (mup (mup μ s m8) pd T) pc C) s m9 = mup (mup (mup μ s m9) pd T) pc C := by
    intro m9 T C
    rw [mup_comm (Ne.symm h2), mup_comm (Ne.symm h1), mup_mup]
  walk_at "js"
  refine .f ?_
  walk_at "js"
  refine his.sort (.f ?_)
  walk_at "js"
  refine ⟨s, m8, _, rfl, (mup_ne h2).trans ((mup_ne h1).trans mup_same), hm8, by decide, fun ys m9 hys hm9 => .of ?_⟩
  rw [hcm]
  obtain ⟨ks, hks, rfl⟩ : ∃ ks : List Str, ks.Perm nms ∧ ys = ks.map D.str := perm_strs hys
  walk_at "js"
  refine loop_inv (fun rs δ μ' => ∃ (dn rest : List Str) (o : Option D), dn ++ rest = ks ∧ rs = rest.map D.str ∧ μ' = mup (mup (mup μ s m9) pd (.dct (gcT p t r f j a cu (st - cu)))) pc (.dct (tabF (gcC p t r f j a cu (st - cu)) dn)) ∧
    δ = [some (.ref s), some (.int n), some (.int p), some (.int t), some (.int f), some (.int a), some (.int j), some (.int (lgz n)), some (.int r), some (.int st), some (.int cu), some (.ref pd), some (.ref pc), o, none]) (fun _ _ _ _ => trivial) ?_ ?_ _ _ _ ⟨[], ks, none, rfl, rfl, rfl, rfl⟩
  · rintro x rs δ μ' ⟨dn, rest, o, hk, hr3, rfl, rfl⟩ QN hN
    cases rest with
    | nil => cases hr3
    | cons x rest =>
      cases hr3
      have hx : x ∈ nms := hks.subset (by rw [← hk]; simp)
      have hnd : (dn ++ x :: rest).Nodup := by rw [hk]; exact hks.symm.nodup (by decide +kernel)
      have hxd : x ∉ dn := fun h => (List.nodup_append.mp hnd).2.2 x h x (List.mem_cons_self ..) rfl
      have hlen : dn.length < 8 := by
        have := congrArg List.length hk
        rw [hks.length_eq, List.length_append, List.length_cons] at this
        have h8 : nms.length = 8 := rfl
        omega
      walk_at "js"
      refine x_ixDA (.m ((mup_ne h3).trans mup_same)) rfl (his.v x hx) ?_
      walk_at "js"
      refine x_setD mup_same rfl (by rw [tabF_len]; have := sizeLine_eq; omega) ?_
      rw [mup_mup, keys_put_new (tabF_none hxd), tabF_snoc]
      exact hN _ _ ⟨dn ++ [x], rest, _, by rw [← hk]; simp, rfl, rfl, rfl⟩
  · rintro δ μ' ⟨dn, rest, o, hk, hr3, rfl, rfl⟩
    have e : rest = [] := by cases rest with
      | nil => rfl
      | cons => cases hr3
    subst e
    rw [List.append_nil] at hk
    subst hk
    walk_at "js"
    refine .join (.dct mup_same ?_)
    rw [mdel_mup ((mup_ne (Ne.symm h3)).trans ((mup_ne (Ne.symm h2)).trans hpc0))]
    refine .drop (μ' := mup μ s m9) ?_ (q _ _ m9 hm9 (tabF_is hks) hw)
    intro b u e
    by_cases hb : b = pd
    · subst hb
      rw [mup_ne (Ne.symm h1), hpd0] at e
      cases e
    · rw [mup_ne hb]; exact e

/-! ### asked -/
theorem ne_strs {μ : Mu} {Q : QE} (q : Q (.bl false) μ) : ne2 (.lst (nms.map D.str)) (.lst (nms.map D.str)) μ Q := by
  refine ⟨_, _, .f, .f, rfl, rfl, ?_, ?_, ?_⟩
  · decide +kernel
  · decide +kernel
  · have e : PyData.eqv (D.lst (nms.map D.str)).py (D.lst (nms.map D.str)).py = true := by decide +kernel
    rw [e]
    exact q
def sp_l_asked : Sp2 := fun ds μ Q _ => ∃ (n : Nat) (d : D) (kvs : List (Key × D)) (c : Str → Int), ds = [.int n, d] ∧ DctAt μ d kvs ∧ IsC kvs c ∧ n < 64 ∧ Q (.bl true) μ
theorem len_l_asked (ds : List D) (μ : Mu) (Q : QE) (ex : Ex2) (h : sp_l_asked ds μ Q ex) : ds.length = 2 := by
  obtain ⟨n, d, kvs, c, rfl, _⟩ := h
  rfl
theorem pure_l_asked (ds : List D) (μ : Mu) (Q : QE) (ex : Ex2) (h : sp_l_asked ds μ Q ex) : t_l_asked sp_is_within sp_l_sentences sp_l_alike (ends Q) (startD ["a", "b", "c", "d", "e", "f"] ds) μ := by
  obtain ⟨n, d, kvs, c, rfl, hx, hc, hn, q⟩ := h
  unfold t_l_asked
  show jSeq _ _ (ends Q) [some _, some _, none, none, none, none] μ
  walk_at "js"
  refine x_dictDA hx (.f ?_)
  walk_at "js"
  refine ⟨n, d, kvs, c, rfl, hx, hc, hn, fun bs hb => .of ?_⟩
  refine x_ninB ?_
  walk_at "js"
  refine ⟨n, _, kvs, c, rfl, .f, hc, hn, .of ?_⟩
  walk_at "js"
  refine .inr ⟨_, _, rfl, .of ?_⟩
  rw [hb, decide_eq_true rfl]
  walk_at "js"
  refine w_false ?_
  walk_at "js"
  refine .f ?_
  walk_at "js"
  refine hc.sort (.f ?_)
  walk_at "js"
  refine x_listDA hx (.f ?_)
  walk_at "js"
  refine hc.sort (.f ?_)
  walk_at "js"
  refine ne_strs ?_
  walk_at "js"
  refine w_false ?_
  walk_at "js"
  refine x_listDA hx (.f ?_)
  obtain ⟨ks, hk, e, _⟩ := hc.keys
  rw [e]
  walk_at "js"
  have hkl : ks.length = 8 := hk.length_eq
  refine lc_map (fun _ => .bl true) _ (by rw [List.length_map, hkl]; decide) (fun x hx2 Y hY => ?_) (.f ?_)
  · obtain ⟨y, hy, rfl⟩ := List.mem_map.mp hx2
    have hv := hc.v y (hk.subset hy)
    walk_at "js"
    refine x_ixDA .f rfl hv ?_
    walk_at "js"
    refine x_ixDA hx rfl hv ?_
    walk_at "js"
    refine .inl ⟨_, _, rfl, .of ?_⟩
    rw [decide_eq_true rfl]
    exact hY
  have e2 : (ks.map D.str).map (fun _ => D.bl true) = (ks.map fun _ => true).map D.bl := by rw [List.map_map, List.map_map]; rfl
  rw [e2]
  refine x_ninB ?_
  have e3 : (ks.map fun _ => true).all id = true := by simp
  rw [e3]
  exact .of q

/-! ### the law -/
def sp_law : Sp2 := fun ds _ Q _ => ∃ ns : List Int, ds = [.rol (ns.map D.int)] ∧ ns.length ≤ 63 ∧ ∀ μ', Q (.bl true) μ'
theorem start_law : Start sp_law := fun ns _ _ hl q => ⟨ns, rfl, hl, q⟩
theorem len_law (ds : List D) (μ : Mu) (Q : QE) (ex : Ex2) (h : sp_law ds μ Q ex) : ds.length = 1 := by
  obtain ⟨n, rfl, _⟩ := h
  rfl
theorem pick10 {z r : Int} (hz : 0 ≤ z) (hz2 : z < 33) (h0 : 0 ≤ r) (h1 : r < 10) : ∃ n : Nat, atI [D.int z, .int 32, .int 0, .int 1, .int 2, .int 3, .int 4, .int 8, .int 16, .int 31] r = some (.int n) ∧ n < 33 := by
  obtain ⟨k, rfl⟩ := Int.eq_ofNat_of_zero_le hz
  obtain rfl | rfl | rfl | rfl | rfl | rfl | rfl | rfl | rfl | rfl : r = 0 ∨ r = 1 ∨ r = 2 ∨ r = 3 ∨ r = 4 ∨ r = 5 ∨ r = 6 ∨ r = 7 ∨ r = 8 ∨ r = 9 := by omega
  · exact ⟨k, rfl, by omega⟩
  · exact ⟨32, rfl, by omega⟩
  · exact ⟨0, rfl, by omega⟩
  · exact ⟨1, rfl, by omega⟩
  · exact ⟨2, rfl, by omega⟩
  · exact ⟨3, rfl, by omega⟩
  · exact ⟨4, rfl, by omega⟩
  · exact ⟨8, rfl, by omega⟩
  · exact ⟨16, rfl, by omega⟩
  · exact ⟨31, rfl, by omega⟩
set_option maxHeartbeats 2000000 in
theorem pure_law (ds : List D) (μ : Mu) (Q : QE) (ex : Ex2) (h : sp_law ds μ Q ex) : t_law sp_l_store sp_l_number sp_l_good_counts sp_l_asked sp_l_take sp_l_alike sp_l_pick sp_rise_bound sp_step_bound sp_is_within sp_l_sentences sp_l_double (ends Q) (startD ["a", "b", "c", "d", "e", "f", "g", "h", "i", "j", "k", "l", "m", "n"] ds) μ := by
  obtain ⟨ns, rfl, hl, q⟩ := h
  unfold t_law
  show jSeq _ _ (ends Q) [some _, none, none, none, none, none, none, none, none, none, none, none, none, none] μ
  walk_at "js"
  refine ⟨ns, rfl, hl, fun s m0 hs0 hm0 => .of ?_⟩
  walk_at "js"
  refine ⟨s, 33, m0, rfl, mup_same, hm0, by decide, fun z m1 hm1 hz _ hz2 => .of ?_⟩
  rw [mup_mup]
  walk_at "js"
  refine .f ?_
  walk_at "js"
  refine ⟨s, 10, m1, rfl, mup_same, hm1, by decide, fun z2 m2 hm2 hz3 _ hz4 => .of ?_⟩
  rw [mup_mup]
  obtain ⟨n, hat, hn⟩ := pick10 hz (hz2 (by decide)) hz3 (hz4 (by decide))
  refine x_ixL hat ?_
  walk_at "js"
  refine ⟨s, m2, rfl, mup_same, hm2, fun p m3 hm3 hp hp2 => .of ?_⟩
  rw [mup_mup]
  walk_at "js"
  refine ⟨s, m3, rfl, mup_same, hm3, fun t m4 hm4 ht ht2 => .of ?_⟩
  rw [mup_mup]
  walk_at "js"
  refine ⟨s, m4, rfl, mup_same, hm4, fun r m5 hm5 hr hr2 => .of ?_⟩
  rw [mup_mup]
  walk_at "js"
  refine ⟨6, rfl, by unfold rngOk; omega, ?_⟩
  refine lc_fm (hiF n) _ (by decide) (fun x hx2 Y Nn hY hN => ?_) (.f ?_)
  · obtain ⟨k, rfl, hk⟩ := hi_x (n := n) hx2
    obtain ⟨h1, h2⟩ := hi_in hY hN
    walk_at "js"
    refine w_ifd (fun hz => ?_) (fun hz => ?_)
    · refine w_true ?_
      walk_at "js"
      exact h1 (by omega)
    · walk_at "js"
      have e : ((k : Int) - 1) = ((k - 1 : Nat) : Int) := by omega
      refine ⟨k - 1, by show [D.int ((k : Int) - 1)] = _; rw [e], by omega, .of ?_⟩
      walk_at "js"
      refine w_if (fun h3 => ?_) (fun h3 => ?_)
      · walk_at "js"
        have := h2 (by omega)
        rw [if_pos h3] at this
        exact this
      · have := h2 (by omega)
        rw [if_neg (by rw [h3]; exact Bool.false_ne_true)] at this
        exact this
  have hn6 : n < 64 := by omega
  walk_at "js"
  refine hi_1 hn6 ?_
  have hx0 := mx_lt (a := 0) (b := 1) hn6 (by omega) (by omega) (by omega) (by omega)
  have hx9 := mx_lt (a := 1) (b := 0) hn6 (by omega) (by omega) (by omega) (by omega)
  walk_at "js"
  refine ⟨n, p, rfl, hn6, .of ?_⟩
  walk_at "js"
  refine x_mulR (by unfold mx at hx0; omega) ?_
  walk_at "js"
  refine .inl ⟨_, _, rfl, .of ?_⟩
  walk_at "js"
  have e1 : decide (p * mx 0 (lgz n - 1) = p * if lgz n - 1 > 0 then lgz n - 1 else 0) = true := decide_eq_true rfl
  rw [e1]
  refine w_false ?_
  walk_at "js"
  refine x_mulR (by unfold mx at hx9; rw [Int.sub_zero] at hx9; omega) ?_
  walk_at "js"
  refine ⟨n, p, t, r, rfl, hn6, .of ?_⟩
  walk_at "js"
  refine .inl ⟨_, _, rfl, .of ?_⟩
  have e2 : 7 * p + 12 * mx 1 (lgz n - 0) * t + 7 * r = p + p + 5 * p + 12 * t * (if lgz n > 1 then lgz n else 1) + 7 * r := by
    unfold mx
    rw [Int.sub_zero]
    generalize (if lgz n > 1 then lgz n else 1) = z
    have : 12 * z * t = 12 * t * z := by rw [Int.mul_assoc, Int.mul_comm z t, ← Int.mul_assoc]
    omega
  rw [decide_eq_true e2]
  walk_at "js"
  refine w_false ?_
  walk_at "js"
  refine ⟨s, m5, n, rfl, mup_same, hm5, hn6, fun kvs c m6 hm6 hc hw => .of ?_⟩
  rw [mup_mup]
  walk_at "js"
  refine x_dictDA .f (.f ?_)
  walk_at "js"
  refine ⟨n, _, kvs, c, rfl, .f, hc, hn6, .of ?_⟩
  rw [hw]
  walk_at "js"
  refine w_false ?_
  walk_at "js"
  refine ⟨n, _, kvs, c, rfl, .f, hc, hn6, fun bs hb => .of ?_⟩
  refine x_inB ?_
  rw [hb, hw]
  walk_at "js"
  refine w_false ?_
  walk_at "js"
  refine .f ?_
  walk_at "js"
  refine hc.sort (.f ?_)
  walk_at "js"
  refine loop_inv (fun rs δ μ' => ∃ (ks : List Str) (m' : MO) (o9 o10 o11 o12 : Option D), μ' s = some m' ∧ IsSt m' ∧ rs = ks.map D.str ∧ (∀ x ∈ ks, x ∈ nms) ∧
    δ = [some (.rol (ns.map D.int)), some (.ref s), some (.int n), some (.int p), some (.int t), some (.int r), some (.int (lgz n)), some (.int (p + p + 5 * p + 12 * t * (if lgz n > 1 then lgz n else 1) + 7 * r)), some (.dct kvs), o9, o10, o11, o12, none])
    (fun _ _ _ _ => trivial) ?_ ?_ _ _ _ ⟨nms, m6, none, none, none, none, mup_same, hm6, rfl, fun _ h => h, rfl⟩
  · rintro x rs δ μ' ⟨ks, m', o9, o10, o11, o12, hs, hm', hr3, hks, rfl⟩ QN hN
    cases ks with
    | nil => cases hr3
    | cons x ks =>
      cases hr3
      have hx : x ∈ nms := hks x (List.mem_cons_self ..)
      walk_at "js"
      refine x_ixDA .f rfl (hc.v x hx) ?_
      walk_at "js"
      refine x_ixDA .f rfl (hc.v x hx) ?_
      walk_at "js"
      refine ⟨s, m', rfl, hs, hm', fun v m7 hm7 hv hv2 => .of ?_⟩
      walk_at "js"
      refine .f ?_
      walk_at "js"
      refine loop_inv (fun rs δ μ' => ∃ (vs : List Int) (m' : MO) (o10 o12 : Option D), μ' s = some m' ∧ IsSt m' ∧ rs = vs.map D.int ∧
        δ = [some (.rol (ns.map D.int)), some (.ref s), some (.int n), some (.int p), some (.int t), some (.int r), some (.int (lgz n)), some (.int (p + p + 5 * p + 12 * t * (if lgz n > 1 then lgz n else 1) + 7 * r)), some (.dct kvs), some (.str x), o10, o11, o12, none])
        (fun _ _ _ _ => trivial) ?_ ?_ _ _ _ ⟨[c x + 1, c x - 1, -1, v], m7, o10, o12, mup_same, hm7, rfl, rfl⟩
      · rintro y rs δ μ' ⟨vs, m', o10, o12, hs, hm', hr3, rfl⟩ QN hN
        cases vs with
        | nil => cases hr3
        | cons y vs =>
          cases hr3
          walk_at "js"
          refine x_dictDA .f (.m fun b hb => ?_)
          have hsb : s ≠ b := fun z => by rw [z, hb] at hs; cases hs
          walk_at "js"
          refine x_setD mup_same rfl (by rw [hc.len]; decide) ?_
          rw [mup_mup]
          walk_at "js"
          refine ⟨n, _, _, _, rfl, .m mup_same, hc.put hx y, hn6, .of ?_⟩
          walk_at "js"
          refine w_false ?_
          walk_at "js"
          exact hN _ _ ⟨vs, m', _, _, (mup_ne hsb).trans hs, hm', rfl, rfl⟩
      · rintro δ μ' ⟨vs, m', o10, o12, hs, hm', hr3, rfl⟩
        walk_at "js"
        refine .f ?_
        walk_at "js"
        refine hc.sort (.f ?_)
        walk_at "js"
        refine ⟨s, m', _, rfl, hs, hm', by decide, by decide, fun d m8 hm8 hd => .of ?_⟩
        obtain ⟨y, hy, rfl⟩ := List.mem_map.mp hd
        walk_at "js"
        refine x_dictDA .f (.m fun b hb => ?_)
        have hsb : s ≠ b := fun z => by rw [← z, mup_same] at hb; cases hb
        walk_at "js"
        refine x_ixDA (.m mup_same) rfl (hc.v x hx) ?_
        walk_at "js"
        refine x_setD mup_same rfl (by rw [hc.len]; decide) ?_
        rw [mup_mup]
        have hc2 := hc.put hx (c x - 1)
        walk_at "js"
        refine x_ixDA (.m mup_same) rfl (hc2.v y hy) ?_
        walk_at "js"
        refine x_setD mup_same rfl (by rw [hc2.len]; decide) ?_
        rw [mup_mup]
        walk_at "js"
        refine ⟨n, _, _, _, rfl, .m mup_same, hc2.put hy _, hn6, .of ?_⟩
        walk_at "js"
        refine w_false ?_
        walk_at "js"
        exact hN _ _ ⟨ks, m8, _, _, _, _, (mup_ne hsb).trans mup_same, hm8, rfl, fun z hz => hks z (List.mem_cons_of_mem _ hz), rfl⟩
  · rintro δ μ' ⟨ks, m', o9, o10, o11, o12, hs, hm', hr3, hks, rfl⟩
    have a1 : ∃ k : Nat, (if (n : Int) - 1 > 0 then (n : Int) - 1 else 0) = k ∧ k < 64 := ⟨n - 1, by split <;> omega, by omega⟩
    have a2 : ∃ k : Nat, (if (n : Int) + 1 < 32 then (n : Int) + 1 else 32) = k ∧ k < 64 := ⟨if n + 1 < 32 then n + 1 else 32, by split <;> split <;> omega, by split <;> omega⟩
    obtain ⟨k1, ek1, hk1⟩ := a1
    obtain ⟨k2, ek2, hk2⟩ := a2
    walk_at "js"
    rw [ek1]
    refine ⟨k1, _, kvs, c, rfl, .f, hc, hk1, .of ?_⟩
    walk_at "js"
    refine w_false ?_
    walk_at "js"
    rw [ek2]
    refine ⟨k2, _, kvs, c, rfl, .f, hc, hk2, .of ?_⟩
    walk_at "js"
    refine w_false ?_
    walk_at "js"
    refine ⟨n, _, kvs, c, rfl, .f, hc, hn6, .of ?_⟩
    walk_at "js"
    exact .of (q _)

/-! ### the row: its defs, scopes, the facts of its top (printed by gen.py) -/
def top (i : Nat) : Stmt := PySem.Challenge.pw_keptjoined_k47_bounds_of_the_counts.main.body.getD i (.Pass ⟨0, 0, 0, 0⟩)
abbrev s_top_level : Stmt := top 1
abbrev s_rise_bound : Stmt := top 4
abbrev s_step_bound : Stmt := top 5
abbrev s_is_within : Stmt := top 6
abbrev s_l_store : Stmt := top 8
abbrev s_l_take : Stmt := top 9
abbrev s_l_pick : Stmt := top 10
abbrev s_l_shuffled : Stmt := top 11
abbrev s_l_alike : Stmt := top 12
abbrev s_l_number : Stmt := top 13
abbrev s_l_up_to : Stmt := top 14
abbrev s_l_sentences : Stmt := top 15
abbrev s_l_double : Stmt := top 16
abbrev s_l_good_counts : Stmt := top 17
abbrev s_l_asked : Stmt := top 18
abbrev s_law : Stmt := top 19
abbrev FnP (K : PySem.W.Frag) (x : Str) (st : Stmt) (f : Addr) (fd : FuncData) : Prop := FunD K x x (defArgs st) (defBody st) (defScope st) [] [] f fd
structure Txt (K : PySem.W.Frag) (mg : Str → Option Value) (fa : Nat → Addr) (fd : Nat → FuncData) : Prop where
  F_top_level : FnP K "top_level" s_top_level (fa 0) (fd 0)
  g_top_level : mg "top_level" = some (.ref (fa 0))
  F_rise_bound : FnP K "rise_bound" s_rise_bound (fa 1) (fd 1)
  g_rise_bound : mg "rise_bound" = some (.ref (fa 1))
  F_step_bound : FnP K "step_bound" s_step_bound (fa 2) (fd 2)
  g_step_bound : mg "step_bound" = some (.ref (fa 2))
  F_is_within : FnP K "is_within" s_is_within (fa 3) (fd 3)
  g_is_within : mg "is_within" = some (.ref (fa 3))
  F_l_store : FnP K "_law_store" s_l_store (fa 4) (fd 4)
  g_l_store : mg "_law_store" = some (.ref (fa 4))
  F_l_take : FnP K "_law_take" s_l_take (fa 5) (fd 5)
  g_l_take : mg "_law_take" = some (.ref (fa 5))
  F_l_pick : FnP K "_law_pick" s_l_pick (fa 6) (fd 6)
  g_l_pick : mg "_law_pick" = some (.ref (fa 6))
  F_l_shuffled : FnP K "_law_shuffled" s_l_shuffled (fa 7) (fd 7)
  g_l_shuffled : mg "_law_shuffled" = some (.ref (fa 7))
  F_l_alike : FnP K "_law_alike" s_l_alike (fa 8) (fd 8)
  g_l_alike : mg "_law_alike" = some (.ref (fa 8))
  F_l_number : FnP K "_law_number" s_l_number (fa 9) (fd 9)
  g_l_number : mg "_law_number" = some (.ref (fa 9))
  F_l_up_to : FnP K "_law_up_to" s_l_up_to (fa 10) (fd 10)
  g_l_up_to : mg "_law_up_to" = some (.ref (fa 10))
  F_l_sentences : FnP K "_law_sentences" s_l_sentences (fa 11) (fd 11)
  g_l_sentences : mg "_law_sentences" = some (.ref (fa 11))
  F_l_double : FnP K "_law_double" s_l_double (fa 12) (fd 12)
  g_l_double : mg "_law_double" = some (.ref (fa 12))
  F_l_good_counts : FnP K "_law_good_counts" s_l_good_counts (fa 13) (fd 13)
  g_l_good_counts : mg "_law_good_counts" = some (.ref (fa 13))
  F_l_asked : FnP K "_law_asked" s_l_asked (fa 14) (fd 14)
  g_l_asked : mg "_law_asked" = some (.ref (fa 14))
  F_law : FnP K "law" s_law (fa 15) (fd 15)
  g_law : mg "law" = some (.ref (fa 15))
  b_bool : mg "bool" = none
  b_dict : mg "dict" = none
  b_int : mg "int" = none
  b_isinstance : mg "isinstance" = none
  b_len : mg "len" = none
  b_list : mg "list" = none
  b_max : mg "max" = none
  b_min : mg "min" = none
  b_range : mg "range" = none
  b_reversed : mg "reversed" = none
  b_sorted : mg "sorted" = none
  b_str : mg "str" = none
  b_tuple : mg "tuple" = none
  m_COUNT_KEYS : ∃ (v : V) (u : Value), mg "COUNT_KEYS" = some u ∧ RelV v u ∧ ∀ F, Rep K F v c_COUNT_KEYS
section
variable {P : Program} {w : World} {K : PySem.W.Frag} {mg : Str → Option Value} {base : Heap} {fa : Nat → Addr} {fd : Nat → FuncData}
theorem Txt.bi_top_level (T : Txt K mg fa fd) : Binds K (fd 0) ["count"] [] := T.F_top_level.bindsN fun _ _ _ _ _ _ us hl => match us, hl with | [_], _ => rfl
theorem Txt.bi_rise_bound (T : Txt K mg fa fd) : Binds K (fd 1) ["count", "puts"] [] := T.F_rise_bound.bindsN fun _ _ _ _ _ _ us hl => match us, hl with | [_, _], _ => rfl
theorem Txt.bi_step_bound (T : Txt K mg fa fd) : Binds K (fd 2) ["count", "puts", "takes", "rises"] [] := T.F_step_bound.bindsN fun _ _ _ _ _ _ us hl => match us, hl with | [_, _, _, _], _ => rfl
theorem Txt.bi_is_within (T : Txt K mg fa fd) : Binds K (fd 3) ["count", "counts"] [] := T.F_is_within.bindsN fun _ _ _ _ _ _ us hl => match us, hl with | [_, _], _ => rfl
theorem Txt.bi_l_store (T : Txt K mg fa fd) : Binds K (fd 4) ["_law_script"] [] := T.F_l_store.bindsN fun _ _ _ _ _ _ us hl => match us, hl with | [_], _ => rfl
theorem Txt.bi_l_take (T : Txt K mg fa fd) : Binds K (fd 5) ["_law_store_here", "_law_many"] [] := T.F_l_take.bindsN fun _ _ _ _ _ _ us hl => match us, hl with | [_, _], _ => rfl
theorem Txt.bi_l_pick (T : Txt K mg fa fd) : Binds K (fd 6) ["_law_store_here", "_law_items"] [] := T.F_l_pick.bindsN fun _ _ _ _ _ _ us hl => match us, hl with | [_, _], _ => rfl
theorem Txt.bi_l_shuffled (T : Txt K mg fa fd) : Binds K (fd 7) ["_law_store_here", "_law_items"] [] := T.F_l_shuffled.bindsN fun _ _ _ _ _ _ us hl => match us, hl with | [_, _], _ => rfl
theorem Txt.bi_l_alike (T : Txt K mg fa fd) : Binds K (fd 8) ["_law_one", "_law_two"] [] := T.F_l_alike.bindsN fun _ _ _ _ _ _ us hl => match us, hl with | [_, _], _ => rfl
theorem Txt.bi_l_number (T : Txt K mg fa fd) : Binds K (fd 9) ["_law_store_here"] [] := T.F_l_number.bindsN fun _ _ _ _ _ _ us hl => match us, hl with | [_], _ => rfl
theorem Txt.bi_l_up_to (T : Txt K mg fa fd) : Binds K (fd 10) ["_law_store_here", "_law_most"] [] := T.F_l_up_to.bindsN fun _ _ _ _ _ _ us hl => match us, hl with | [_, _], _ => rfl
theorem Txt.bi_l_sentences (T : Txt K mg fa fd) : Binds K (fd 11) ["_law_count", "_law_counts"] [] := T.F_l_sentences.bindsN fun _ _ _ _ _ _ us hl => match us, hl with | [_, _], _ => rfl
theorem Txt.bi_l_double (T : Txt K mg fa fd) : Binds K (fd 12) ["_law_times"] [] := T.F_l_double.bindsN fun _ _ _ _ _ _ us hl => match us, hl with | [_], _ => rfl
theorem Txt.bi_l_good_counts (T : Txt K mg fa fd) : Binds K (fd 13) ["_law_store_here", "_law_count"] [] := T.F_l_good_counts.bindsN fun _ _ _ _ _ _ us hl => match us, hl with | [_, _], _ => rfl
theorem Txt.bi_l_asked (T : Txt K mg fa fd) : Binds K (fd 14) ["_law_count", "_law_counts"] [] := T.F_l_asked.bindsN fun _ _ _ _ _ _ us hl => match us, hl with | [_, _], _ => rfl
theorem Txt.bi_law (T : Txt K mg fa fd) : Binds K (fd 15) ["_law_script"] [] := T.F_law.bindsN fun _ _ _ _ _ _ us hl => match us, hl with | [_], _ => rfl
theorem Txt.k_COUNT_KEYS {X : Cx} {Z : Zw} (T : Txt X.K X.mg fa fd) (hg : Gl X "COUNT_KEYS") {pos : Pos} : E2 X Z (.Name "COUNT_KEYS" pos) (jC c_COUNT_KEYS) := by
  obtain ⟨v, u, h1, h2, h3⟩ := T.m_COUNT_KEYS
  exact jglob hg h1 h2 h3
theorem sc_top_level : FnScope ["count", "level"] ["count"] (defScope s_top_level) := ⟨rfl, rfl, rfl, by decide +kernel, rfl, by decide +kernel, by decide +kernel⟩
theorem ok_top_level (T : Txt K mg fa fd) : FnOk P w K mg base CX0 1 (fa 0) (fd 0) ["count"] (lowSp K sp_top_level) := by
  refine fnok (t := t_top_level ) T.F_top_level sc_top_level len_top_level (fun cdv A outer s H E hr => ?_) pure_top_level
  have hu := hu_of hr
  have nd := sc_top_level.nd
  exact jb (js_set (i := 1) nd rfl (by first | exact Or.inl rfl | exact Or.inr rfl) (jint))
    (jb (js_while PassesOwn.never (jtcmp ogt (jop oshr (jv 0) (jop oadd (jv 1) (jint))) (jint) (nomark _))
    (jb1 (js_augI (i := 1) nd rfl (by first | exact Or.inl rfl | exact Or.inr rfl) (jint) ip_add)))
    (jb1 (js_ret (jv 1))))
theorem sc_rise_bound : FnScope ["count", "puts"] ["count", "puts"] (defScope s_rise_bound) := ⟨rfl, rfl, rfl, by decide +kernel, rfl, by decide +kernel, by decide +kernel⟩
theorem ok_rise_bound (T : Txt K mg fa fd) : FnOk P w K mg base CX0 2 (fa 1) (fd 1) ["count", "puts"] (lowSp K sp_rise_bound) := by
  refine fnok (t := t_rise_bound sp_top_level) T.F_rise_bound sc_rise_bound len_rise_bound (fun cdv A outer s H E hr => ?_) pure_rise_bound
  have hu := hu_of hr
  have nd := sc_rise_bound.nd
  exact jb1 (js_ret (jop omul (jv 1) (jcallF (cmax rfl) (by rfl) T.b_max bb_max (ja (jint) (ja (jop osub (jcall ((ok_top_level T).mono (by decide)) hr (by rfl) T.g_top_level T.F_top_level.kp T.bi_top_level .nil (fun _ => .nil) pass0 (fun _ _ _ _ => ZE.none) (ja (jv 0) (ja0))) (jint)) (ja0))))))
theorem sc_step_bound : FnScope ["count", "puts", "takes", "rises"] ["count", "puts", "takes", "rises"] (defScope s_step_bound) := ⟨rfl, rfl, rfl, by decide +kernel, rfl, by decide +kernel, by decide +kernel⟩
theorem ok_step_bound (T : Txt K mg fa fd) : FnOk P w K mg base CX0 2 (fa 2) (fd 2) ["count", "puts", "takes", "rises"] (lowSp K sp_step_bound) := by
  refine fnok (t := t_step_bound sp_top_level) T.F_step_bound sc_step_bound len_step_bound (fun cdv A outer s H E hr => ?_) pure_step_bound
  have hu := hu_of hr
  have nd := sc_step_bound.nd
  exact jb1 (js_ret (jop oadd (jop oadd (jop omul (jint) (jv 1)) (jop omul (jop omul (jint) (jcallF (cmax rfl) (by rfl) T.b_max bb_max (ja (jint) (ja (jcall ((ok_top_level T).mono (by decide)) hr (by rfl) T.g_top_level T.F_top_level.kp T.bi_top_level .nil (fun _ => .nil) pass0 (fun _ _ _ _ => ZE.none) (ja (jv 0) (ja0))) (ja0))))) (jv 2))) (jop omul (jint) (jv 3))))
theorem sc_is_within : FnScope ["count", "counts", "key", "puts", "takes", "rises", "gained"] ["count", "counts"] (defScope s_is_within) := ⟨rfl, rfl, rfl, by decide +kernel, rfl, by decide +kernel, by decide +kernel⟩
theorem ok_is_within (T : Txt K mg fa fd) : FnOk P w K mg base CX0 3 (fa 3) (fd 3) ["count", "counts"] (lowSp K sp_is_within) := by
  refine fnok (t := t_is_within sp_rise_bound sp_step_bound) T.F_is_within sc_is_within len_is_within (fun cdv A outer s H E hr => ?_) pure_is_within
  have hu := hu_of hr
  have nd := sc_is_within.nd
  exact jb (js_for PassesOwn.never rfl (ji_tup (T.k_COUNT_KEYS (by rfl))) (kg (i := 2) nd rfl (by first | exact Or.inl rfl | exact Or.inr rfl))
    (jb1 (js_if (jtcmp olt (jix (oix hu) (jv 1) (jv 2) (fun _ _ => rfl)) (jint) (nomark _))
    (jb1 (js_ret (jbl)))
    (jb0))))
    (jb (js_par3 (i := 3) (j := 4) (l := 5) (ps_par3 rfl nd rfl rfl rfl (by decide) (by decide) (by decide) rfl rfl rfl (ja (jix (oix hu) (jv 1) (jstr) (fun _ _ => rfl)) (ja (jix (oix hu) (jv 1) (jstr) (fun _ _ => rfl)) (ja (jix (oix hu) (jv 1) (jstr) (fun _ _ => rfl)) (ja0)))) (by rfl)))
    (jb (js_if (PW.pt (jwor (jtcmp ogt (jv 4) (jv 3) (nomark _)) (pw_or1 (jtcmp ogt (jix (oix hu) (jv 1) (jstr) (fun _ _ => rfl)) (jv 3) (nomark _)))))
    (jb1 (js_ret (jbl)))
    (jb0))
    (jb (js_if (jtcmp ogt (jop oadd (jix (oix hu) (jv 1) (jstr) (fun _ _ => rfl)) (jix (oix hu) (jv 1) (jstr) (fun _ _ => rfl))) (jv 4) (nomark _))
    (jb1 (js_ret (jbl)))
    (jb0))
    (jb (js_set (i := 6) nd rfl (by first | exact Or.inl rfl | exact Or.inr rfl) (jop osub (jix (oix hu) (jv 1) (jstr) (fun _ _ => rfl)) (jix (oix hu) (jv 1) (jstr) (fun _ _ => rfl))))
    (jb (js_if (PW.pt (jwor (jtcmp olt (jv 6) (jint) (nomark _)) (pw_or1 (jtcmp ogt (jv 6) (jcallF (cmax rfl) (by rfl) T.b_max bb_max (ja (jint) (ja (jop osub (jv 0) (jint)) (ja0)))) (nomark _)))))
    (jb1 (js_ret (jbl)))
    (jb0))
    (jb (js_if (jtcmp ogt (jv 5) (jcall ((ok_rise_bound T).mono (by decide)) hr (by rfl) T.g_rise_bound T.F_rise_bound.kp T.bi_rise_bound .nil (fun _ => .nil) pass0 (fun _ _ _ _ => ZE.none) (ja (jv 0) (ja (jv 3) (ja0)))) (nomark _))
    (jb1 (js_ret (jbl)))
    (jb0))
    (jb1 (js_ret (jcmp ole (jop oadd (jix (oix hu) (jv 1) (jstr) (fun _ _ => rfl)) (jix (oix hu) (jv 1) (jstr) (fun _ _ => rfl))) (jcall ((ok_step_bound T).mono (by decide)) hr (by rfl) T.g_step_bound T.F_step_bound.kp T.bi_step_bound .nil (fun _ => .nil) pass0 (fun _ _ _ _ => ZE.none) (ja (jv 0) (ja (jv 3) (ja (jv 4) (ja (jv 5) (ja0)))))) (nomark _))))))))))
theorem sc_l_store : FnScope ["_law_script", "_law_cells", "_law_state", "_law_cell"] ["_law_script"] (defScope s_l_store) := ⟨rfl, rfl, rfl, by decide +kernel, rfl, by decide +kernel, by decide +kernel⟩
theorem ok_l_store (T : Txt K mg fa fd) : FnOk P w K mg base CX0 1 (fa 4) (fd 4) ["_law_script"] (lowSp K sp_l_store) := by
  refine fnok (t := t_l_store ) T.F_l_store sc_l_store len_l_store (fun cdv A outer s H E hr => ?_) pure_l_store
  have hu := hu_of hr
  have nd := sc_l_store.nd
  exact jb (js_set (i := 1) nd rfl (by first | exact Or.inl rfl | exact Or.inr rfl) (jcallT (clist rfl) (by rfl) T.b_list bb_list (ja (jv 0) (ja0))))
    (jb (js_set (i := 2) nd rfl (by first | exact Or.inl rfl | exact Or.inr rfl) (jop oadd (jint) (jcallF clen (by rfl) T.b_len bb_len (ja (jv 1) (ja0)))))
    (jb (js_for PassesOwn.never rfl (ji_list (jv 1)) (kg (i := 3) nd rfl (by first | exact Or.inl rfl | exact Or.inr rfl))
    (jb1 (js_set (i := 2) nd rfl (by first | exact Or.inl rfl | exact Or.inr rfl) (jop omod (jop oadd (jop oadd (jop omul (jv 2) (jint)) (jop omod (jcallT cint (by rfl) T.b_int bb_int (ja (jv 3) (ja0))) (jint))) (jint)) (jint)))))
    (jb1 (js_ret (jlst (ja (jv 1) (ja (jint) (ja (jint) (ja (jv 2) (ja (jint) (ja0)))))))))))
theorem sc_l_take : FnScope ["_law_store_here", "_law_many", "_law_digits", "_law_tick", "_law_cells", "_law_place", "_law_cell", "_law_mixed"] ["_law_store_here", "_law_many"] (defScope s_l_take) := ⟨rfl, rfl, rfl, by decide +kernel, rfl, by decide +kernel, by decide +kernel⟩
theorem ok_l_take (T : Txt K mg fa fd) : FnOk P w K mg base CX0 1 (fa 5) (fd 5) ["_law_store_here", "_law_many"] (lowSp K sp_l_take) := by
  refine fnok (t := t_l_take ) T.F_l_take sc_l_take len_l_take (fun cdv A outer s H E hr => ?_) pure_l_take
  have hu := hu_of hr
  have nd := sc_l_take.nd
  exact jb (js_if (jtcmp olt (jv 1) (jint) (nomark _))
    (jb1 (js_ret (jint)))
    (jb0))
    (jb (js_set (i := 2) nd rfl (by first | exact Or.inl rfl | exact Or.inr rfl) (jcallT cint (by rfl) T.b_int bb_int (ja (jix (oix hu) (jv 0) (jint) (fun _ _ => rfl)) (ja0))))
    (jb (js_if (jtcmp ogt (jv 2) (jint) (nomark _))
    (jb (js_asg (jop ofdiv (jv 2) (jv 1)) (kgsub hu (jv 0) (jint)))
    (jb1 (js_ret (jop omod (jv 2) (jv 1)))))
    (jb0))
    (jb (js_asg (jop oadd (jcallT cint (by rfl) T.b_int bb_int (ja (jix (oix hu) (jv 0) (jint) (fun _ _ => rfl)) (ja0))) (jint)) (kgsub hu (jv 0) (jint)))
    (jb (js_set (i := 3) nd rfl (by first | exact Or.inl rfl | exact Or.inr rfl) (jcallT cint (by rfl) T.b_int bb_int (ja (jix (oix hu) (jv 0) (jint) (fun _ _ => rfl)) (ja0))))
    (jb (js_set (i := 4) nd rfl (by first | exact Or.inl rfl | exact Or.inr rfl) (jix (oix hu) (jv 0) (jint) (fun _ _ => rfl)))
    (jb (js_set (i := 5) nd rfl (by first | exact Or.inl rfl | exact Or.inr rfl) (jcallT cint (by rfl) T.b_int bb_int (ja (jix (oix hu) (jv 0) (jint) (fun _ _ => rfl)) (ja0))))
    (jb (js_if (jtcmp olt (jv 5) (jcallF clen (by rfl) T.b_len bb_len (ja (jv 4) (ja0))) (nomark _))
    (jb (js_set (i := 6) nd rfl (by first | exact Or.inl rfl | exact Or.inr rfl) (jcallT cint (by rfl) T.b_int bb_int (ja (jix (oix hu) (jv 4) (jv 5) (fun _ _ => rfl)) (ja0))))
    (jb (js_asg (jop oadd (jv 5) (jint)) (kgsub hu (jv 0) (jint)))
    (jb (js_if (jtcmp oge (jv 6) (jop opow (jint) (jint)) (nomark _))
    (jb (js_asg (jop ofdiv (jv 6) (jv 1)) (kgsub hu (jv 0) (jint)))
    (jb1 (js_ret (jop omod (jv 6) (jv 1)))))
    (jb0))
    (jb1 (js_set (i := 7) nd rfl (by first | exact Or.inl rfl | exact Or.inr rfl) (jop omod (jop oadd (jop oadd (jop omul (jv 6) (jint)) (jop omul (jv 3) (jint))) (jint)) (jint)))))))
    (jb (js_set (i := 7) nd rfl (by first | exact Or.inl rfl | exact Or.inr rfl) (jop omod (jop oadd (jop oadd (jop omul (jcallT cint (by rfl) T.b_int bb_int (ja (jix (oix hu) (jv 0) (jint) (fun _ _ => rfl)) (ja0))) (jint)) (jop omul (jv 3) (jint))) (jint)) (jint)))
    (jb1 (js_asg (jv 7) (kgsub hu (jv 0) (jint))))))
    (jb1 (js_ret (jop omod (jop omod (jop oadd (jop omul (jv 7) (jv 7)) (jop ofdiv (jv 7) (jint))) (jint)) (jv 1)))))))))))
theorem sc_l_pick : FnScope ["_law_store_here", "_law_items"] ["_law_store_here", "_law_items"] (defScope s_l_pick) := ⟨rfl, rfl, rfl, by decide +kernel, rfl, by decide +kernel, by decide +kernel⟩
theorem ok_l_pick (T : Txt K mg fa fd) : FnOk P w K mg base CX0 2 (fa 6) (fd 6) ["_law_store_here", "_law_items"] (lowSp K sp_l_pick) := by
  refine fnok (t := t_l_pick sp_l_take) T.F_l_pick sc_l_pick len_l_pick (fun cdv A outer s H E hr => ?_) pure_l_pick
  have hu := hu_of hr
  have nd := sc_l_pick.nd
  exact jb (js_if (jtcmp (oeq hr.units) (jcallF clen (by rfl) T.b_len bb_len (ja (jv 1) (ja0))) (jint) (nomark _))
    (jb1 (js_ret (jnon)))
    (jb0))
    (jb1 (js_ret (jix (oix hu) (jv 1) (jcall ((ok_l_take T).mono (by decide)) hr (by rfl) T.g_l_take T.F_l_take.kp T.bi_l_take .nil (fun _ => .nil) pass0 (fun _ _ _ _ => ZE.none) (ja (jv 0) (ja (jcallF clen (by rfl) T.b_len bb_len (ja (jv 1) (ja0))) (ja0)))) (fun _ _ => rfl))))
theorem sc_l_shuffled : FnScope ["_law_store_here", "_law_items", "_law_row", "_law_style", "_law_k", "_law_at", "_law_kept"] ["_law_store_here", "_law_items"] (defScope s_l_shuffled) := ⟨rfl, rfl, rfl, by decide +kernel, rfl, by decide +kernel, by decide +kernel⟩
theorem ok_l_shuffled (T : Txt K mg fa fd) : FnOk P w K mg base CX0 2 (fa 7) (fd 7) ["_law_store_here", "_law_items"] (lowSp K sp_l_shuffled) := by
  refine fnok (t := t_l_shuffled sp_l_take) T.F_l_shuffled sc_l_shuffled len_l_shuffled (fun cdv A outer s H E hr => ?_) pure_l_shuffled
  have hu := hu_of hr
  have nd := sc_l_shuffled.nd
  exact jb (js_set (i := 2) nd rfl (by first | exact Or.inl rfl | exact Or.inr rfl) (jcallT (clist rfl) (by rfl) T.b_list bb_list (ja (jv 1) (ja0))))
    (jb (js_set (i := 3) nd rfl (by first | exact Or.inl rfl | exact Or.inr rfl) (jcall ((ok_l_take T).mono (by decide)) hr (by rfl) T.g_l_take T.F_l_take.kp T.bi_l_take .nil (fun _ => .nil) pass0 (fun _ _ _ _ => ZE.none) (ja (jv 0) (ja (jint) (ja0)))))
    (jb (js_if (jtcmp (oeq hr.units) (jv 3) (jint) (nomark _))
    (jb1 (js_ret (jv 2)))
    (jb0))
    (jb (js_if (jtcmp (oeq hr.units) (jv 3) (jint) (nomark _))
    (jb1 (js_ret (jlistRev rfl (by rfl) T.b_list (by rfl) T.b_reversed (jv 2))))
    (jb0))
    (jb (js_for PassesOwn.never rfl (ji_range1 (by rfl) T.b_range (ja (jop osub (jcallF clen (by rfl) T.b_len bb_len (ja (jv 2) (ja0))) (jint)) (ja0))) (kg (i := 4) nd rfl (by first | exact Or.inl rfl | exact Or.inr rfl))
    (jb (js_set (i := 5) nd rfl (by first | exact Or.inl rfl | exact Or.inr rfl) (jop oadd (jv 4) (jcall ((ok_l_take T).mono (by decide)) hr (by rfl) T.g_l_take T.F_l_take.kp T.bi_l_take .nil (fun _ => .nil) pass0 (fun _ _ _ _ => ZE.none) (ja (jv 0) (ja (jop osub (jcallF clen (by rfl) T.b_len bb_len (ja (jv 2) (ja0))) (jv 4)) (ja0))))))
    (jb (js_set (i := 6) nd rfl (by first | exact Or.inl rfl | exact Or.inr rfl) (jix (oix hu) (jv 2) (jv 4) (fun _ _ => rfl)))
    (jb (js_asg (jix (oix hu) (jv 2) (jv 5) (fun _ _ => rfl)) (kgsub hu (jv 2) (jv 4)))
    (jb1 (js_asg (jv 6) (kgsub hu (jv 2) (jv 5))))))))
    (jb1 (js_ret (jv 2)))))))
theorem sc_l_alike : FnScope ["_law_one", "_law_two", "_law_k"] ["_law_one", "_law_two"] (defScope s_l_alike) := ⟨rfl, rfl, rfl, by decide +kernel, rfl, by decide +kernel, by decide +kernel⟩
theorem body_l_alike (T : Txt K mg fa fd) {k : Nat} {sp : Sp2} (hk : 0 ≤ k) (ih : FnOk P w K mg base CX0 k (fa 8) (fd 8) ["_law_one", "_law_two"] (lowSp K sp)) (cdv : Value) (A : Around) (outer : List Env) (s : Shared) (H : Hp) (E : XK) (hr : Room k (A.deeper (envOfC "_law_alike" (defScope s_l_alike) s.heap.objs.size (fa 8) cdv))) :
    B2 (cxOf CX0 P w K mg base ["_law_one", "_law_two", "_law_k"] "_law_alike" (defScope s_l_alike) (fa 8) cdv A outer s H E).nox Z0 (defBody s_l_alike) (t_l_alike  sp) := by
  have hu := hu_of hr
  have nd := sc_l_alike.nd
  exact jb (js_if (PW.pt (jwor (jtval (jcallF (cisi .str (by decide)) (by rfl) T.b_isinstance bb_isinstance (ja (jv 0) (ja (jbltn (by rfl) T.b_str bb_str) ja0)))) (pw_or1 (jtval (jcallF (cisi .str (by decide)) (by rfl) T.b_isinstance bb_isinstance (ja (jv 1) (ja (jbltn (by rfl) T.b_str bb_str) ja0)))))))
    (jb1 (js_ret (jand (jcallF (cisi .str (by decide)) (by rfl) T.b_isinstance bb_isinstance (ja (jv 0) (ja (jbltn (by rfl) T.b_str bb_str) ja0))) (jand (jcallF (cisi .str (by decide)) (by rfl) T.b_isinstance bb_isinstance (ja (jv 1) (ja (jbltn (by rfl) T.b_str bb_str) ja0))) (jone (jcmp (oeq hr.units) (jv 0) (jv 1) (nomark _)))))))
    (jb0))
    (jb (js_if (PW.pt (jwor (PW.pt (jwand (jtval (jcallF (cisi .lst (by decide)) (by rfl) T.b_isinstance bb_isinstance (ja (jv 0) (ja (jbltn (by rfl) T.b_list bb_list) ja0)))) (pw_and1 (jtval (jcallF (cisi .lst (by decide)) (by rfl) T.b_isinstance bb_isinstance (ja (jv 1) (ja (jbltn (by rfl) T.b_list bb_list) ja0))))))) (pw_or1 (PW.pt (jwand (jtval (jcallF (cisi .tup (by decide)) (by rfl) T.b_isinstance bb_isinstance (ja (jv 0) (ja (jbltn (by rfl) T.b_tuple bb_tuple) ja0)))) (pw_and1 (jtval (jcallF (cisi .tup (by decide)) (by rfl) T.b_isinstance bb_isinstance (ja (jv 1) (ja (jbltn (by rfl) T.b_tuple bb_tuple) ja0))))))))))
    (jb1 (js_ret (jand (jcmp (oeq hr.units) (jcallF clen (by rfl) T.b_len bb_len (ja (jv 0) (ja0))) (jcallF clen (by rfl) T.b_len bb_len (ja (jv 1) (ja0))) (nomark _)) (jone (jcmp (onotin hu) (jbl) (by exact jlc (own := [(("_law_k" : Str), 2)]) rfl nd (ji_range1 (by rfl) T.b_range (ja (jcallF clen (by rfl) T.b_len bb_len (ja (jv 0) (ja0))) (ja0))) (blkOk_by (own := [(("_law_k" : Str), 2)]) (N := [("_law_one" : Str), ("_law_two" : Str), ("_law_k" : Str)]) (sc := defScope s_l_alike) (by decide +kernel)) (gw_name (j := 2) (by decide)) (fun _ _ _ _ _ => (pg_name (i := 2) nd rfl (by first | exact Or.inl rfl | exact Or.inr rfl))) (fun _ _ _ _ _ => jts0) (fun _ _ _ _ _ => jcall ih hr (by rfl) T.g_l_alike T.F_l_alike.kp T.bi_l_alike .nil (fun _ => .nil) pass0 (fun _ _ _ _ => ZE.none) (ja (jix (oix hu) (jv 0) (jv 2) (fun _ _ => rfl)) (ja (jix (oix hu) (jv 1) (jv 2) (fun _ _ => rfl)) (ja0))))) rfl)))))
    (jb0))
    (jb (js_if (PW.pt (jwor (jtcmp ois (jv 0) (jnon) (nomark _)) (pw_or1 (jtcmp ois (jv 1) (jnon) (nomark _)))))
    (jb1 (js_ret (jand (jcmp ois (jv 0) (jnon) (nomark _)) (jone (jcmp ois (jv 1) (jnon) (nomark _))))))
    (jb0))
    (jb (js_if (PW.pt (jwor (jtnot (jtval (jcallF (cisi .int (by decide)) (by rfl) T.b_isinstance bb_isinstance (ja (jv 0) (ja (jbltn (by rfl) T.b_int bb_int) ja0))))) (pw_or1 (jtnot (jtval (jcallF (cisi .int (by decide)) (by rfl) T.b_isinstance bb_isinstance (ja (jv 1) (ja (jbltn (by rfl) T.b_int bb_int) ja0))))))))
    (jb1 (js_ret (jbl)))
    (jb0))
    (jb1 (js_ret (jand (jcmp (oeq hr.units) (jcallF (cisi .bl (by decide)) (by rfl) T.b_isinstance bb_isinstance (ja (jv 0) (ja (jbltn (by rfl) T.b_bool bb_bool) ja0))) (jcallF (cisi .bl (by decide)) (by rfl) T.b_isinstance bb_isinstance (ja (jv 1) (ja (jbltn (by rfl) T.b_bool bb_bool) ja0))) (nomark _)) (jone (jcmp (oeq hr.units) (jv 0) (jv 1) (nomark _)))))))))
theorem ok_l_alike (T : Txt K mg fa fd) : FnOk P w K mg base CX0 1 (fa 8) (fd 8) ["_law_one", "_law_two"] (lowSp K sp_l_alike) :=
  fnok (k := 0) (t := t_l_alike  (fun _ _ _ _ => False)) T.F_l_alike sc_l_alike len_l_alike (body_l_alike T (by decide) never) pure_l_alike
theorem sc_l_number : FnScope ["_law_store_here", "_law_most"] ["_law_store_here"] (defScope s_l_number) := ⟨rfl, rfl, rfl, by decide +kernel, rfl, by decide +kernel, by decide +kernel⟩
theorem ok_l_number (T : Txt K mg fa fd) : FnOk P w K mg base CX0 2 (fa 9) (fd 9) ["_law_store_here"] (lowSp K sp_l_number) := by
  refine fnok (t := t_l_number sp_l_take) T.F_l_number sc_l_number len_l_number (fun cdv A outer s H E hr => ?_) pure_l_number
  have hu := hu_of hr
  have nd := sc_l_number.nd
  exact jb (js_set (i := 1) nd rfl (by first | exact Or.inl rfl | exact Or.inr rfl) (jix (oix hu) (jlst (ja (jint) (ja (jint) (ja (jint) (ja (jint) (ja (jint) (ja (jop opow (jint) (jint)) (ja0)))))))) (jcall ((ok_l_take T).mono (by decide)) hr (by rfl) T.g_l_take T.F_l_take.kp T.bi_l_take .nil (fun _ => .nil) pass0 (fun _ _ _ _ => ZE.none) (ja (jv 0) (ja (jint) (ja0)))) (fun _ _ => rfl)))
    (jb1 (js_ret (jcall ((ok_l_take T).mono (by decide)) hr (by rfl) T.g_l_take T.F_l_take.kp T.bi_l_take .nil (fun _ => .nil) pass0 (fun _ _ _ _ => ZE.none) (ja (jv 0) (ja (jv 1) (ja0))))))
theorem sc_l_up_to : FnScope ["_law_store_here", "_law_most", "_law_style"] ["_law_store_here", "_law_most"] (defScope s_l_up_to) := ⟨rfl, rfl, rfl, by decide +kernel, rfl, by decide +kernel, by decide +kernel⟩
theorem ok_l_up_to (T : Txt K mg fa fd) : FnOk P w K mg base CX0 2 (fa 10) (fd 10) ["_law_store_here", "_law_most"] (lowSp K sp_l_up_to) := by
  refine fnok (t := t_l_up_to sp_l_take) T.F_l_up_to sc_l_up_to len_l_up_to (fun cdv A outer s H E hr => ?_) pure_l_up_to
  have hu := hu_of hr
  have nd := sc_l_up_to.nd
  exact jb (js_set (i := 2) nd rfl (by first | exact Or.inl rfl | exact Or.inr rfl) (jcall ((ok_l_take T).mono (by decide)) hr (by rfl) T.g_l_take T.F_l_take.kp T.bi_l_take .nil (fun _ => .nil) pass0 (fun _ _ _ _ => ZE.none) (ja (jv 0) (ja (jint) (ja0)))))
    (jb (js_if (jtcmp olt (jv 2) (jint) (nomark _))
    (jb1 (js_ret (jop omul (jv 1) (jv 2))))
    (jb0))
    (jb1 (js_ret (jcall ((ok_l_take T).mono (by decide)) hr (by rfl) T.g_l_take T.F_l_take.kp T.bi_l_take .nil (fun _ => .nil) pass0 (fun _ _ _ _ => ZE.none) (ja (jv 0) (ja (jop oadd (jv 1) (jint)) (ja0)))))))
theorem sc_l_double : FnScope ["_law_times", "_law_power", "_law_k"] ["_law_times"] (defScope s_l_double) := ⟨rfl, rfl, rfl, by decide +kernel, rfl, by decide +kernel, by decide +kernel⟩
theorem ok_l_double (T : Txt K mg fa fd) : FnOk P w K mg base CX0 1 (fa 12) (fd 12) ["_law_times"] (lowSp K sp_l_double) := by
  refine fnok (t := t_l_double ) T.F_l_double sc_l_double len_l_double (fun cdv A outer s H E hr => ?_) pure_l_double
  have hu := hu_of hr
  have nd := sc_l_double.nd
  exact jb (js_set (i := 1) nd rfl (by first | exact Or.inl rfl | exact Or.inr rfl) (jint))
    (jb (js_for PassesOwn.never rfl (ji_range1 (by rfl) T.b_range (ja (jv 0) (ja0))) (kg (i := 2) nd rfl (by first | exact Or.inl rfl | exact Or.inr rfl))
    (jb1 (js_set (i := 1) nd rfl (by first | exact Or.inl rfl | exact Or.inr rfl) (jop oadd (jv 1) (jv 1)))))
    (jb1 (js_ret (jv 1))))
theorem sc_l_sentences : FnScope ["_law_count", "_law_counts", "_law_highest", "_law_rises", "_law_steps", "_law_row", "_law_key", "_law_k"] ["_law_count", "_law_counts"] (defScope s_l_sentences) := ⟨rfl, rfl, rfl, by decide +kernel, rfl, by decide +kernel, by decide +kernel⟩
theorem ok_l_sentences (T : Txt K mg fa fd) : FnOk P w K mg base CX0 2 (fa 11) (fd 11) ["_law_count", "_law_counts"] (lowSp K sp_l_sentences) := by
  refine fnok (t := t_l_sentences sp_l_double) T.F_l_sentences sc_l_sentences len_l_sentences (fun cdv A outer s H E hr => ?_) pure_l_sentences
  have hu := hu_of hr
  have nd := sc_l_sentences.nd
  exact jb (js_set (i := 2) nd rfl (by first | exact Or.inl rfl | exact Or.inr rfl) (jcallF (cmax rfl) (by rfl) T.b_max bb_max (ja (by exact jlc (own := [(("_law_k" : Str), 7)]) rfl nd (ji_range1 (by rfl) T.b_range (ja (jint) (ja0))) (blkOk_by (own := [(("_law_k" : Str), 7)]) (N := [("_law_count" : Str), ("_law_counts" : Str), ("_law_highest" : Str), ("_law_rises" : Str), ("_law_steps" : Str), ("_law_row" : Str), ("_law_key" : Str), ("_law_k" : Str)]) (sc := defScope s_l_sentences) (by decide +kernel)) (gw_name (j := 7) (by decide)) (fun _ _ _ _ _ => (pg_name (i := 7) nd rfl (by first | exact Or.inl rfl | exact Or.inr rfl))) (fun _ _ _ _ _ => jts1 (PW.pt (jwor (jtcmp (oeq hr.units) (jv 7) (jint) (nomark _)) (pw_or1 (jtcmp ole (jop omul (jint) (jcall ((ok_l_double T).mono (by decide)) hr (by rfl) T.g_l_double T.F_l_double.kp T.bi_l_double .nil (fun _ => .nil) pass0 (fun _ _ _ _ => ZE.none) (ja (jop osub (jv 7) (jint)) (ja0)))) (jv 0) (nomark _)))))) (fun _ _ _ _ _ => jv 7)) (ja0))))
    (jb (js_set (i := 3) nd rfl (by first | exact Or.inl rfl | exact Or.inr rfl) (jop omul (jix (oix hu) (jv 1) (jstr) (fun _ _ => rfl)) (jcallF (cmax rfl) (by rfl) T.b_max bb_max (ja (jint) (ja (jop osub (jv 2) (jint)) (ja0))))))
    (jb (js_set (i := 4) nd rfl (by first | exact Or.inl rfl | exact Or.inr rfl) (jop oadd (jop oadd (jop omul (jix (oix hu) (jv 1) (jstr) (fun _ _ => rfl)) (jint)) (jop omul (jop omul (jix (oix hu) (jv 1) (jstr) (fun _ _ => rfl)) (jint)) (jcallF (cmax rfl) (by rfl) T.b_max bb_max (ja (jint) (ja (jv 2) (ja0)))))) (jop omul (jix (oix hu) (jv 1) (jstr) (fun _ _ => rfl)) (jint))))
    (jb (by exact js_setLc (i := 5) (own := [(("_law_key" : Str), 6)]) rfl nd rfl rfl (sw_true rfl rfl rfl (by decide +kernel)) (ji_list (jcallF csorted (by rfl) T.b_sorted bb_sorted (ja (jcallT (clist rfl) (by rfl) T.b_list bb_list (ja (jv 1) (ja0))) (ja0)))) (blkOk_by (own := [(("_law_key" : Str), 6)]) (N := [("_law_count" : Str), ("_law_counts" : Str), ("_law_highest" : Str), ("_law_rises" : Str), ("_law_steps" : Str), ("_law_row" : Str), ("_law_key" : Str), ("_law_k" : Str)]) (sc := defScope s_l_sentences) (by decide +kernel)) (gw_name (j := 6) (by decide)) (fun _ _ _ _ _ => (pg_name (i := 6) nd rfl (by first | exact Or.inl rfl | exact Or.inr rfl))) (fun _ _ _ _ _ => jts0) (fun _ _ _ _ _ => jcmp oge (jix (oix hu) (jv 1) (jv 6) (fun _ _ => rfl)) (jint) (nomark _)))
    (jb (js_set (i := 5) nd rfl (by first | exact Or.inl rfl | exact Or.inr rfl) (jop oadd (jv 5) (jlst (ja (jcmp ole (jix (oix hu) (jv 1) (jstr) (fun _ _ => rfl)) (jix (oix hu) (jv 1) (jstr) (fun _ _ => rfl)) (nomark _)) (ja (jcmp ole (jix (oix hu) (jv 1) (jstr) (fun _ _ => rfl)) (jix (oix hu) (jv 1) (jstr) (fun _ _ => rfl)) (nomark _)) (ja0))))))
    (jb (js_set (i := 5) nd rfl (by first | exact Or.inl rfl | exact Or.inr rfl) (jop oadd (jv 5) (jlst (ja (jcmp ole (jop oadd (jix (oix hu) (jv 1) (jstr) (fun _ _ => rfl)) (jix (oix hu) (jv 1) (jstr) (fun _ _ => rfl))) (jix (oix hu) (jv 1) (jstr) (fun _ _ => rfl)) (nomark _)) (ja (jcmp oge (jix (oix hu) (jv 1) (jstr) (fun _ _ => rfl)) (jix (oix hu) (jv 1) (jstr) (fun _ _ => rfl)) (nomark _)) (ja0))))))
    (jb (js_set (i := 5) nd rfl (by first | exact Or.inl rfl | exact Or.inr rfl) (jop oadd (jv 5) (jlst (ja (jcmp ole (jop osub (jix (oix hu) (jv 1) (jstr) (fun _ _ => rfl)) (jix (oix hu) (jv 1) (jstr) (fun _ _ => rfl))) (jcallF (cmax rfl) (by rfl) T.b_max bb_max (ja (jint) (ja (jop osub (jv 0) (jint)) (ja0)))) (nomark _)) (ja (jcmp ole (jix (oix hu) (jv 1) (jstr) (fun _ _ => rfl)) (jv 3) (nomark _)) (ja0))))))
    (jb1 (js_ret (jop oadd (jv 5) (jlst (ja (jcmp ole (jop oadd (jix (oix hu) (jv 1) (jstr) (fun _ _ => rfl)) (jix (oix hu) (jv 1) (jstr) (fun _ _ => rfl))) (jv 4) (nomark _)) (ja0))))))))))))
theorem sc_l_good_counts : FnScope ["_law_store_here", "_law_count", "_law_puts", "_law_takes", "_law_found", "_law_apart", "_law_joined", "_law_highest", "_law_rises", "_law_steps", "_law_cuts", "_law_due", "_law_counts", "_law_key", "_law_k"] ["_law_store_here", "_law_count"] (defScope s_l_good_counts) := ⟨rfl, rfl, rfl, by decide +kernel, rfl, by decide +kernel, by decide +kernel⟩
theorem ok_l_good_counts (T : Txt K mg fa fd) : FnOk P w K mg base CX0 3 (fa 13) (fd 13) ["_law_store_here", "_law_count"] (lowSp K sp_l_good_counts) := by
  refine fnok (t := t_l_good_counts sp_l_number sp_l_up_to sp_l_shuffled sp_l_double) T.F_l_good_counts sc_l_good_counts len_l_good_counts (fun cdv A outer s H E hr => ?_) pure_l_good_counts
  have hu := hu_of hr
  have nd := sc_l_good_counts.nd
  exact jb (js_set (i := 2) nd rfl (by first | exact Or.inl rfl | exact Or.inr rfl) (jcall ((ok_l_number T).mono (by decide)) hr (by rfl) T.g_l_number T.F_l_number.kp T.bi_l_number .nil (fun _ => .nil) pass0 (fun _ _ _ _ => ZE.none) (ja (jv 0) (ja0))))
    (jb (js_set (i := 3) nd rfl (by first | exact Or.inl rfl | exact Or.inr rfl) (jcall ((ok_l_up_to T).mono (by decide)) hr (by rfl) T.g_l_up_to T.F_l_up_to.kp T.bi_l_up_to .nil (fun _ => .nil) pass0 (fun _ _ _ _ => ZE.none) (ja (jv 0) (ja (jv 2) (ja0)))))
    (jb (js_set (i := 4) nd rfl (by first | exact Or.inl rfl | exact Or.inr rfl) (jcall ((ok_l_up_to T).mono (by decide)) hr (by rfl) T.g_l_up_to T.F_l_up_to.kp T.bi_l_up_to .nil (fun _ => .nil) pass0 (fun _ _ _ _ => ZE.none) (ja (jv 0) (ja (jv 3) (ja0)))))
    (jb (js_set (i := 5) nd rfl (by first | exact Or.inl rfl | exact Or.inr rfl) (jcall ((ok_l_up_to T).mono (by decide)) hr (by rfl) T.g_l_up_to T.F_l_up_to.kp T.bi_l_up_to .nil (fun _ => .nil) pass0 (fun _ _ _ _ => ZE.none) (ja (jv 0) (ja (jop osub (jv 3) (jv 4)) (ja0)))))
    (jb (js_set (i := 6) nd rfl (by first | exact Or.inl rfl | exact Or.inr rfl) (jcallF (cmin rfl) (by rfl) T.b_min bb_min (ja (jv 2) (ja (jop oadd (jv 5) (jcall ((ok_l_up_to T).mono (by decide)) hr (by rfl) T.g_l_up_to T.F_l_up_to.kp T.bi_l_up_to .nil (fun _ => .nil) pass0 (fun _ _ _ _ => ZE.none) (ja (jv 0) (ja (jcallF (cmax rfl) (by rfl) T.b_max bb_max (ja (jint) (ja (jop osub (jv 1) (jint)) (ja0)))) (ja0))))) (ja0)))))
    (jb (js_set (i := 7) nd rfl (by first | exact Or.inl rfl | exact Or.inr rfl) (jcallF (cmax rfl) (by rfl) T.b_max bb_max (ja (by exact jlc (own := [(("_law_k" : Str), 14)]) rfl nd (ji_range1 (by rfl) T.b_range (ja (jint) (ja0))) (blkOk_by (own := [(("_law_k" : Str), 14)]) (N := [("_law_store_here" : Str), ("_law_count" : Str), ("_law_puts" : Str), ("_law_takes" : Str), ("_law_found" : Str), ("_law_apart" : Str), ("_law_joined" : Str), ("_law_highest" : Str), ("_law_rises" : Str), ("_law_steps" : Str), ("_law_cuts" : Str), ("_law_due" : Str), ("_law_counts" : Str), ("_law_key" : Str), ("_law_k" : Str)]) (sc := defScope s_l_good_counts) (by decide +kernel)) (gw_name (j := 14) (by decide)) (fun _ _ _ _ _ => (pg_name (i := 14) nd rfl (by first | exact Or.inl rfl | exact Or.inr rfl))) (fun _ _ _ _ _ => jts1 (PW.pt (jwor (jtcmp (oeq hr.units) (jv 14) (jint) (nomark _)) (pw_or1 (jtcmp ole (jop omul (jint) (jcall ((ok_l_double T).mono (by decide)) hr (by rfl) T.g_l_double T.F_l_double.kp T.bi_l_double .nil (fun _ => .nil) pass0 (fun _ _ _ _ => ZE.none) (ja (jop osub (jv 14) (jint)) (ja0)))) (jv 1) (nomark _)))))) (fun _ _ _ _ _ => jv 14)) (ja0))))
    (jb (js_set (i := 8) nd rfl (by first | exact Or.inl rfl | exact Or.inr rfl) (jcall ((ok_l_up_to T).mono (by decide)) hr (by rfl) T.g_l_up_to T.F_l_up_to.kp T.bi_l_up_to .nil (fun _ => .nil) pass0 (fun _ _ _ _ => ZE.none) (ja (jv 0) (ja (jop omul (jv 2) (jcallF (cmax rfl) (by rfl) T.b_max bb_max (ja (jint) (ja (jop osub (jv 7) (jint)) (ja0))))) (ja0)))))
    (jb (js_set (i := 9) nd rfl (by first | exact Or.inl rfl | exact Or.inr rfl) (jcall ((ok_l_up_to T).mono (by decide)) hr (by rfl) T.g_l_up_to T.F_l_up_to.kp T.bi_l_up_to .nil (fun _ => .nil) pass0 (fun _ _ _ _ => ZE.none) (ja (jv 0) (ja (jop oadd (jop oadd (jop omul (jv 2) (jint)) (jop omul (jop omul (jv 3) (jint)) (jcallF (cmax rfl) (by rfl) T.b_max bb_max (ja (jint) (ja (jv 7) (ja0)))))) (jop omul (jv 8) (jint))) (ja0)))))
    (jb (js_set (i := 10) nd rfl (by first | exact Or.inl rfl | exact Or.inr rfl) (jcall ((ok_l_up_to T).mono (by decide)) hr (by rfl) T.g_l_up_to T.F_l_up_to.kp T.bi_l_up_to .nil (fun _ => .nil) pass0 (fun _ _ _ _ => ZE.none) (ja (jv 0) (ja (jv 9) (ja0)))))
    (jb (js_set (i := 11) nd rfl (by first | exact Or.inl rfl | exact Or.inr rfl) (jdisp (y := pe_disp (jpps (jstr) (jv 2) (jpps (jstr) (jv 3) (jpps (jstr) (jv 8) (jpps (jstr) (jv 4) (jpps (jstr) (jv 6) (jpps (jstr) (jv 5) (jpps0))))))) (by rfl) (by rfl) (fun z => by cases z) (by decide))))
    (jb (js_expr (jbm PySem.F.plainAttrs_dict PySem.F.slot_dict_update PySem.F.type_dict_update mupdate (jv 11) (ja (jdisp (y := pe_disp (jpps (jstr) (jv 10) (jpps (jstr) (jop osub (jv 9) (jv 10)) (jpps0))) (by rfl) (by rfl) (fun z => by cases z) (by decide))) (ja0))))
    (jb (js_set (i := 12) nd rfl (by first | exact Or.inl rfl | exact Or.inr rfl) (jdnew))
    (jb (js_for PassesOwn.never rfl (ji_list (jcall ((ok_l_shuffled T).mono (by decide)) hr (by rfl) T.g_l_shuffled T.F_l_shuffled.kp T.bi_l_shuffled .nil (fun _ => .nil) pass0 (fun _ _ _ _ => ZE.none) (ja (jv 0) (ja (jcallF csorted (by rfl) T.b_sorted bb_sorted (ja (jcallT (clist rfl) (by rfl) T.b_list bb_list (ja (jv 11) (ja0))) (ja0))) (ja0))))) (kg (i := 13) nd rfl (by first | exact Or.inl rfl | exact Or.inr rfl))
    (jb1 (js_asg (jix (oix hu) (jv 11) (jv 13) (fun _ _ => rfl)) (kgsub hu (jv 12) (jv 13)))))
    (jb1 (js_ret (jv 12)))))))))))))))
theorem sc_l_asked : FnScope ["_law_count", "_law_counts", "_law_handed", "_law_due", "_law_told", "_law_key"] ["_law_count", "_law_counts"] (defScope s_l_asked) := ⟨rfl, rfl, rfl, by decide +kernel, rfl, by decide +kernel, by decide +kernel⟩
theorem ok_l_asked (T : Txt K mg fa fd) : FnOk P w K mg base CX0 4 (fa 14) (fd 14) ["_law_count", "_law_counts"] (lowSp K sp_l_asked) := by
  refine fnok (t := t_l_asked sp_is_within sp_l_sentences sp_l_alike) T.F_l_asked sc_l_asked len_l_asked (fun cdv A outer s H E hr => ?_) pure_l_asked
  have hu := hu_of hr
  have nd := sc_l_asked.nd
  exact jb (js_set (i := 2) nd rfl (by first | exact Or.inl rfl | exact Or.inr rfl) (jcallT cdict (by rfl) T.b_dict bb_dict (ja (jv 1) (ja0))))
    (jb (js_set (i := 3) nd rfl (by first | exact Or.inl rfl | exact Or.inr rfl) (jcmp (onotin hu) (jbl) (jcall ((ok_l_sentences T).mono (by decide)) hr (by rfl) T.g_l_sentences T.F_l_sentences.kp T.bi_l_sentences .nil (fun _ => .nil) pass0 (fun _ _ _ _ => ZE.none) (ja (jv 0) (ja (jv 1) (ja0)))) rfl))
    (jb (js_set (i := 4) nd rfl (by first | exact Or.inl rfl | exact Or.inr rfl) (jcall ((ok_is_within T).mono (by decide)) hr (by rfl) T.g_is_within T.F_is_within.kp T.bi_is_within .nil (fun _ => .nil) pass0 (fun _ _ _ _ => ZE.none) (ja (jv 0) (ja (jv 2) (ja0)))))
    (jb (js_if (PW.pt (jwor (jtnot (jtval (jcall ((ok_l_alike T).mono (by decide)) hr (by rfl) T.g_l_alike T.F_l_alike.kp T.bi_l_alike .nil (fun _ => .nil) pass0 (fun _ _ _ _ => ZE.none) (ja (jv 4) (ja (jv 3) (ja0)))))) (pw_or1 (jtcmp (one_ hr.units) (jcallF csorted (by rfl) T.b_sorted bb_sorted (ja (jcallT (clist rfl) (by rfl) T.b_list bb_list (ja (jv 2) (ja0))) (ja0))) (jcallF csorted (by rfl) T.b_sorted bb_sorted (ja (jcallT (clist rfl) (by rfl) T.b_list bb_list (ja (jv 1) (ja0))) (ja0))) (nomark _)))))
    (jb1 (js_ret (jbl)))
    (jb0))
    (jb1 (js_ret (jcmp (onotin hu) (jbl) (by exact jlc (own := [(("_law_key" : Str), 5)]) rfl nd (ji_list (jcallT (clist rfl) (by rfl) T.b_list bb_list (ja (jv 1) (ja0)))) (blkOk_by (own := [(("_law_key" : Str), 5)]) (N := [("_law_count" : Str), ("_law_counts" : Str), ("_law_handed" : Str), ("_law_due" : Str), ("_law_told" : Str), ("_law_key" : Str)]) (sc := defScope s_l_asked) (by decide +kernel)) (gw_name (j := 5) (by decide)) (fun _ _ _ _ _ => (pg_name (i := 5) nd rfl (by first | exact Or.inl rfl | exact Or.inr rfl))) (fun _ _ _ _ _ => jts0) (fun _ _ _ _ _ => jcall ((ok_l_alike T).mono (by decide)) hr (by rfl) T.g_l_alike T.F_l_alike.kp T.bi_l_alike .nil (fun _ => .nil) pass0 (fun _ _ _ _ => ZE.none) (ja (jix (oix hu) (jv 2) (jv 5) (fun _ _ => rfl)) (ja (jix (oix hu) (jv 1) (jv 5) (fun _ _ => rfl)) (ja0))))) rfl))))))
theorem sc_law : FnScope ["_law_script", "_law_store_here", "_law_count", "_law_puts", "_law_takes", "_law_rises", "_law_highest", "_law_steps", "_law_counts", "_law_key", "_law_value", "_law_other", "_law_bent", "_law_k"] ["_law_script"] (defScope s_law) := ⟨rfl, rfl, rfl, by decide +kernel, rfl, by decide +kernel, by decide +kernel⟩
theorem ok_law (T : Txt K mg fa fd) : FnOk P w K mg base CX0 5 (fa 15) (fd 15) ["_law_script"] (lowSp K sp_law) := by
  refine fnok (t := t_law sp_l_store sp_l_number sp_l_good_counts sp_l_asked sp_l_take sp_l_alike sp_l_pick sp_rise_bound sp_step_bound sp_is_within sp_l_sentences sp_l_double) T.F_law sc_law len_law (fun cdv A outer s H E hr => ?_) pure_law
  have hu := hu_of hr
  have nd := sc_law.nd
  exact jb (js_set (i := 1) nd rfl (by first | exact Or.inl rfl | exact Or.inr rfl) (jcall ((ok_l_store T).mono (by decide)) hr (by rfl) T.g_l_store T.F_l_store.kp T.bi_l_store .nil (fun _ => .nil) pass0 (fun _ _ _ _ => ZE.none) (ja (jv 0) (ja0))))
    (jb (js_set (i := 2) nd rfl (by first | exact Or.inl rfl | exact Or.inr rfl) (jix (oix hu) (jlst (ja (jcall ((ok_l_take T).mono (by decide)) hr (by rfl) T.g_l_take T.F_l_take.kp T.bi_l_take .nil (fun _ => .nil) pass0 (fun _ _ _ _ => ZE.none) (ja (jv 1) (ja (jint) (ja0)))) (ja (jint) (ja (jint) (ja (jint) (ja (jint) (ja (jint) (ja (jint) (ja (jint) (ja (jint) (ja (jint) (ja0)))))))))))) (jcall ((ok_l_take T).mono (by decide)) hr (by rfl) T.g_l_take T.F_l_take.kp T.bi_l_take .nil (fun _ => .nil) pass0 (fun _ _ _ _ => ZE.none) (ja (jv 1) (ja (jint) (ja0)))) (fun _ _ => rfl)))
    (jb (js_set (i := 3) nd rfl (by first | exact Or.inl rfl | exact Or.inr rfl) (jcall ((ok_l_number T).mono (by decide)) hr (by rfl) T.g_l_number T.F_l_number.kp T.bi_l_number .nil (fun _ => .nil) pass0 (fun _ _ _ _ => ZE.none) (ja (jv 1) (ja0))))
    (jb (js_set (i := 4) nd rfl (by first | exact Or.inl rfl | exact Or.inr rfl) (jcall ((ok_l_number T).mono (by decide)) hr (by rfl) T.g_l_number T.F_l_number.kp T.bi_l_number .nil (fun _ => .nil) pass0 (fun _ _ _ _ => ZE.none) (ja (jv 1) (ja0))))
    (jb (js_set (i := 5) nd rfl (by first | exact Or.inl rfl | exact Or.inr rfl) (jcall ((ok_l_number T).mono (by decide)) hr (by rfl) T.g_l_number T.F_l_number.kp T.bi_l_number .nil (fun _ => .nil) pass0 (fun _ _ _ _ => ZE.none) (ja (jv 1) (ja0))))
    (jb (js_set (i := 6) nd rfl (by first | exact Or.inl rfl | exact Or.inr rfl) (jcallF (cmax rfl) (by rfl) T.b_max bb_max (ja (by exact jlc (own := [(("_law_k" : Str), 13)]) rfl nd (ji_range1 (by rfl) T.b_range (ja (jint) (ja0))) (blkOk_by (own := [(("_law_k" : Str), 13)]) (N := [("_law_script" : Str), ("_law_store_here" : Str), ("_law_count" : Str), ("_law_puts" : Str), ("_law_takes" : Str), ("_law_rises" : Str), ("_law_highest" : Str), ("_law_steps" : Str), ("_law_counts" : Str), ("_law_key" : Str), ("_law_value" : Str), ("_law_other" : Str), ("_law_bent" : Str), ("_law_k" : Str)]) (sc := defScope s_law) (by decide +kernel)) (gw_name (j := 13) (by decide)) (fun _ _ _ _ _ => (pg_name (i := 13) nd rfl (by first | exact Or.inl rfl | exact Or.inr rfl))) (fun _ _ _ _ _ => jts1 (PW.pt (jwor (jtcmp (oeq hr.units) (jv 13) (jint) (nomark _)) (pw_or1 (jtcmp ole (jop omul (jint) (jcall ((ok_l_double T).mono (by decide)) hr (by rfl) T.g_l_double T.F_l_double.kp T.bi_l_double .nil (fun _ => .nil) pass0 (fun _ _ _ _ => ZE.none) (ja (jop osub (jv 13) (jint)) (ja0)))) (jv 2) (nomark _)))))) (fun _ _ _ _ _ => jv 13)) (ja0))))
    (jb (js_if (jtnot (jtval (jcall ((ok_l_alike T).mono (by decide)) hr (by rfl) T.g_l_alike T.F_l_alike.kp T.bi_l_alike .nil (fun _ => .nil) pass0 (fun _ _ _ _ => ZE.none) (ja (jcall ((ok_rise_bound T).mono (by decide)) hr (by rfl) T.g_rise_bound T.F_rise_bound.kp T.bi_rise_bound .nil (fun _ => .nil) pass0 (fun _ _ _ _ => ZE.none) (ja (jv 2) (ja (jv 3) (ja0)))) (ja (jop omul (jv 3) (jcallF (cmax rfl) (by rfl) T.b_max bb_max (ja (jint) (ja (jop osub (jv 6) (jint)) (ja0))))) (ja0))))))
    (jb1 (js_ret (jbl)))
    (jb0))
    (jb (js_set (i := 7) nd rfl (by first | exact Or.inl rfl | exact Or.inr rfl) (jop oadd (jop oadd (jop oadd (jop oadd (jv 3) (jv 3)) (jop omul (jint) (jv 3))) (jop omul (jop omul (jint) (jv 4)) (jcallF (cmax rfl) (by rfl) T.b_max bb_max (ja (jint) (ja (jv 6) (ja0)))))) (jop omul (jint) (jv 5))))
    (jb (js_if (jtnot (jtval (jcall ((ok_l_alike T).mono (by decide)) hr (by rfl) T.g_l_alike T.F_l_alike.kp T.bi_l_alike .nil (fun _ => .nil) pass0 (fun _ _ _ _ => ZE.none) (ja (jcall ((ok_step_bound T).mono (by decide)) hr (by rfl) T.g_step_bound T.F_step_bound.kp T.bi_step_bound .nil (fun _ => .nil) pass0 (fun _ _ _ _ => ZE.none) (ja (jv 2) (ja (jv 3) (ja (jv 4) (ja (jv 5) (ja0)))))) (ja (jv 7) (ja0))))))
    (jb1 (js_ret (jbl)))
    (jb0))
    (jb (js_set (i := 8) nd rfl (by first | exact Or.inl rfl | exact Or.inr rfl) (jcall ((ok_l_good_counts T).mono (by decide)) hr (by rfl) T.g_l_good_counts T.F_l_good_counts.kp T.bi_l_good_counts .nil (fun _ => .nil) pass0 (fun _ _ _ _ => ZE.none) (ja (jv 1) (ja (jv 2) (ja0)))))
    (jb (js_if (PW.pt (jwor (jtcmp oisnot (jcall ((ok_is_within T).mono (by decide)) hr (by rfl) T.g_is_within T.F_is_within.kp T.bi_is_within .nil (fun _ => .nil) pass0 (fun _ _ _ _ => ZE.none) (ja (jv 2) (ja (jcallT cdict (by rfl) T.b_dict bb_dict (ja (jv 8) (ja0))) (ja0)))) (jbl) (nomark _)) (pw_or1 (jtcmp (oin hu) (jbl) (jcall ((ok_l_sentences T).mono (by decide)) hr (by rfl) T.g_l_sentences T.F_l_sentences.kp T.bi_l_sentences .nil (fun _ => .nil) pass0 (fun _ _ _ _ => ZE.none) (ja (jv 2) (ja (jv 8) (ja0)))) rfl))))
    (jb1 (js_ret (jbl)))
    (jb0))
    (jb (js_for PassesOwn.never rfl (ji_list (jcallF csorted (by rfl) T.b_sorted bb_sorted (ja (jcallT (clist rfl) (by rfl) T.b_list bb_list (ja (jv 8) (ja0))) (ja0)))) (kg (i := 9) nd rfl (by first | exact Or.inl rfl | exact Or.inr rfl))
    (jb (js_for PassesOwn.never rfl (ji_list (jlst (ja (jop oadd (jix (oix hu) (jv 8) (jv 9) (fun _ _ => rfl)) (jint)) (ja (jop osub (jix (oix hu) (jv 8) (jv 9) (fun _ _ => rfl)) (jint)) (ja (jun oneg (jint)) (ja (jcall ((ok_l_number T).mono (by decide)) hr (by rfl) T.g_l_number T.F_l_number.kp T.bi_l_number .nil (fun _ => .nil) pass0 (fun _ _ _ _ => ZE.none) (ja (jv 1) (ja0))) (ja0))))))) (kg (i := 10) nd rfl (by first | exact Or.inl rfl | exact Or.inr rfl))
    (jb (js_set (i := 12) nd rfl (by first | exact Or.inl rfl | exact Or.inr rfl) (jcallT cdict (by rfl) T.b_dict bb_dict (ja (jv 8) (ja0))))
    (jb (js_asg (jv 10) (kgsub hu (jv 12) (jv 9)))
    (jb1 (js_if (jtnot (jtval (jcall ((ok_l_asked T).mono (by decide)) hr (by rfl) T.g_l_asked T.F_l_asked.kp T.bi_l_asked .nil (fun _ => .nil) pass0 (fun _ _ _ _ => ZE.none) (ja (jv 2) (ja (jv 12) (ja0))))))
    (jb1 (js_ret (jbl)))
    (jb0))))))
    (jb (js_set (i := 11) nd rfl (by first | exact Or.inl rfl | exact Or.inr rfl) (jcall ((ok_l_pick T).mono (by decide)) hr (by rfl) T.g_l_pick T.F_l_pick.kp T.bi_l_pick .nil (fun _ => .nil) pass0 (fun _ _ _ _ => ZE.none) (ja (jv 1) (ja (jcallF csorted (by rfl) T.b_sorted bb_sorted (ja (jcallT (clist rfl) (by rfl) T.b_list bb_list (ja (jv 8) (ja0))) (ja0))) (ja0)))))
    (jb (js_set (i := 12) nd rfl (by first | exact Or.inl rfl | exact Or.inr rfl) (jcallT cdict (by rfl) T.b_dict bb_dict (ja (jv 8) (ja0))))
    (jb (js_asg (jop osub (jix (oix hu) (jv 12) (jv 9) (fun _ _ => rfl)) (jint)) (kgsub hu (jv 12) (jv 9)))
    (jb (js_asg (jop oadd (jix (oix hu) (jv 12) (jv 11) (fun _ _ => rfl)) (jint)) (kgsub hu (jv 12) (jv 11)))
    (jb1 (js_if (jtnot (jtval (jcall ((ok_l_asked T).mono (by decide)) hr (by rfl) T.g_l_asked T.F_l_asked.kp T.bi_l_asked .nil (fun _ => .nil) pass0 (fun _ _ _ _ => ZE.none) (ja (jv 2) (ja (jv 12) (ja0))))))
    (jb1 (js_ret (jbl)))
    (jb0)))))))))
    (jb (js_if (PW.pt (jwor (jtnot (jtval (jcall ((ok_l_asked T).mono (by decide)) hr (by rfl) T.g_l_asked T.F_l_asked.kp T.bi_l_asked .nil (fun _ => .nil) pass0 (fun _ _ _ _ => ZE.none) (ja (jcallF (cmax rfl) (by rfl) T.b_max bb_max (ja (jint) (ja (jop osub (jv 2) (jint)) (ja0)))) (ja (jv 8) (ja0)))))) (pw_or1 (jtnot (jtval (jcall ((ok_l_asked T).mono (by decide)) hr (by rfl) T.g_l_asked T.F_l_asked.kp T.bi_l_asked .nil (fun _ => .nil) pass0 (fun _ _ _ _ => ZE.none) (ja (jcallF (cmin rfl) (by rfl) T.b_min bb_min (ja (jint) (ja (jop oadd (jv 2) (jint)) (ja0)))) (ja (jv 8) (ja0)))))))))
    (jb1 (js_ret (jbl)))
    (jb0))
    (jb1 (js_ret (jcall ((ok_l_asked T).mono (by decide)) hr (by rfl) T.g_l_asked T.F_l_asked.kp T.bi_l_asked .nil (fun _ => .nil) pass0 (fun _ _ _ _ => ZE.none) (ja (jv 2) (ja (jv 8) (ja0))))))))))))))))))
end

/-! ### the head (printed by gen.py) -/
def hdFn : List He.DefD := [⟨("top_level", none), "top_level", "top_level", defArgs s_top_level, defBody s_top_level, defScope s_top_level, [], []⟩, ⟨("rise_bound", none), "rise_bound", "rise_bound", defArgs s_rise_bound, defBody s_rise_bound, defScope s_rise_bound, [], []⟩, ⟨("step_bound", none), "step_bound", "step_bound", defArgs s_step_bound, defBody s_step_bound, defScope s_step_bound, [], []⟩, ⟨("is_within", none), "is_within", "is_within", defArgs s_is_within, defBody s_is_within, defScope s_is_within, [], []⟩, ⟨("_law_store", none), "_law_store", "_law_store", defArgs s_l_store, defBody s_l_store, defScope s_l_store, [], []⟩, ⟨("_law_take", none), "_law_take", "_law_take", defArgs s_l_take, defBody s_l_take, defScope s_l_take, [], []⟩, ⟨("_law_pick", none), "_law_pick", "_law_pick", defArgs s_l_pick, defBody s_l_pick, defScope s_l_pick, [], []⟩, ⟨("_law_shuffled", none), "_law_shuffled", "_law_shuffled", defArgs s_l_shuffled, defBody s_l_shuffled, defScope s_l_shuffled, [], []⟩, ⟨("_law_alike", none), "_law_alike", "_law_alike", defArgs s_l_alike, defBody s_l_alike, defScope s_l_alike, [], []⟩, ⟨("_law_number", none), "_law_number", "_law_number", defArgs s_l_number, defBody s_l_number, defScope s_l_number, [], []⟩, ⟨("_law_up_to", none), "_law_up_to", "_law_up_to", defArgs s_l_up_to, defBody s_l_up_to, defScope s_l_up_to, [], []⟩, ⟨("_law_sentences", none), "_law_sentences", "_law_sentences", defArgs s_l_sentences, defBody s_l_sentences, defScope s_l_sentences, [], []⟩, ⟨("_law_double", none), "_law_double", "_law_double", defArgs s_l_double, defBody s_l_double, defScope s_l_double, [], []⟩, ⟨("_law_good_counts", none), "_law_good_counts", "_law_good_counts", defArgs s_l_good_counts, defBody s_l_good_counts, defScope s_l_good_counts, [], []⟩, ⟨("_law_asked", none), "_law_asked", "_law_asked", defArgs s_l_asked, defBody s_l_asked, defScope s_l_asked, [], []⟩, ⟨("law", none), "law", "law", defArgs s_law, defBody s_law, defScope s_law, [], []⟩]
def hdFa : List He.Fa := [.glo "top_level", .glo "rise_bound", .glo "step_bound", .glo "is_within", .glo "_law_store", .glo "_law_take", .glo "_law_pick", .glo "_law_shuffled", .glo "_law_alike", .glo "_law_number", .glo "_law_up_to", .glo "_law_sentences", .glo "_law_double", .glo "_law_good_counts", .glo "_law_asked", .glo "law", .free "bool", .free "dict", .free "int", .free "isinstance", .free "len", .free "list", .free "max", .free "min", .free "range", .free "reversed", .free "sorted", .free "str", .free "tuple", .glo "COUNT_KEYS"]
def hdEx (K : PySem.W.Frag) : Bool := (He.tupB K "COUNT_KEYS" [.str "puts", .str "takes", .str "rises", .str "found", .str "joined", .str "parted", .str "cuts", .str "splices"] && true)
abbrev hdR : PySem.W.OpenRow := PySem.W.OpenLaw.row PySem.Challenge.rw_keptjoined_k47_bounds_of_the_counts
abbrev hdK : PySem.W.Hook := hookJ 4 hdFa hdFn hdEx
def hdO (s : PySem.W.SharedT) : AlJ := obsJ 4 hdFa hdFn hdEx (HandSHeadRun.getT s)
theorem hdO_eq (s : PySem.W.SharedT) : hdO s = hdK.obs s.abs := obsJ_eq (HandSHeadRun.getT_eq s)
abbrev hdL : List Str := ["top_level", "COUNT_KEYS", "rise_bound", "step_bound", "is_within", "_law_store", "_law_take", "_law_pick", "_law_shuffled", "_law_alike", "_law_number", "_law_up_to", "_law_sentences", "_law_double", "_law_good_counts", "_law_asked"]
set_option maxHeartbeats 4000000 in
theorem hdRun (w : World) : HandSHeadRun.RunEq hdR (PySem.W.view hdR.prog [19]) hdK hdO 1600 hdL w := by
  intro os
  kernel_rfl
theorem hdTxt {K : PySem.W.Frag} {h : Heap} {mg : Str → Option Value} (X : K.In h) (G : h.Ns mainGlobals mg) (c : He.SaysD hdFa hdFn K) (ce : hdEx K = true) : ∃ fdv : Nat → FuncData, Txt K mg (fun i => ([He.ga K "top_level", He.ga K "rise_bound", He.ga K "step_bound", He.ga K "is_within", He.ga K "_law_store", He.ga K "_law_take", He.ga K "_law_pick", He.ga K "_law_shuffled", He.ga K "_law_alike", He.ga K "_law_number", He.ga K "_law_up_to", He.ga K "_law_sentences", He.ga K "_law_double", He.ga K "_law_good_counts", He.ga K "_law_asked", He.ga K "law"].getD i 0)) fdv := by
  obtain ⟨fd0, F0⟩ := c.def_ 0 (d := ⟨("top_level", none), "top_level", "top_level", defArgs s_top_level, defBody s_top_level, defScope s_top_level, [], []⟩) rfl
  obtain ⟨fd1, F1⟩ := c.def_ 1 (d := ⟨("rise_bound", none), "rise_bound", "rise_bound", defArgs s_rise_bound, defBody s_rise_bound, defScope s_rise_bound, [], []⟩) rfl
  obtain ⟨fd2, F2⟩ := c.def_ 2 (d := ⟨("step_bound", none), "step_bound", "step_bound", defArgs s_step_bound, defBody s_step_bound, defScope s_step_bound, [], []⟩) rfl
  obtain ⟨fd3, F3⟩ := c.def_ 3 (d := ⟨("is_within", none), "is_within", "is_within", defArgs s_is_within, defBody s_is_within, defScope s_is_within, [], []⟩) rfl
  obtain ⟨fd4, F4⟩ := c.def_ 4 (d := ⟨("_law_store", none), "_law_store", "_law_store", defArgs s_l_store, defBody s_l_store, defScope s_l_store, [], []⟩) rfl
  obtain ⟨fd5, F5⟩ := c.def_ 5 (d := ⟨("_law_take", none), "_law_take", "_law_take", defArgs s_l_take, defBody s_l_take, defScope s_l_take, [], []⟩) rfl
  obtain ⟨fd6, F6⟩ := c.def_ 6 (d := ⟨("_law_pick", none), "_law_pick", "_law_pick", defArgs s_l_pick, defBody s_l_pick, defScope s_l_pick, [], []⟩) rfl
  obtain ⟨fd7, F7⟩ := c.def_ 7 (d := ⟨("_law_shuffled", none), "_law_shuffled", "_law_shuffled", defArgs s_l_shuffled, defBody s_l_shuffled, defScope s_l_shuffled, [], []⟩) rfl
  obtain ⟨fd8, F8⟩ := c.def_ 8 (d := ⟨("_law_alike", none), "_law_alike", "_law_alike", defArgs s_l_alike, defBody s_l_alike, defScope s_l_alike, [], []⟩) rfl
  obtain ⟨fd9, F9⟩ := c.def_ 9 (d := ⟨("_law_number", none), "_law_number", "_law_number", defArgs s_l_number, defBody s_l_number, defScope s_l_number, [], []⟩) rfl
  obtain ⟨fd10, F10⟩ := c.def_ 10 (d := ⟨("_law_up_to", none), "_law_up_to", "_law_up_to", defArgs s_l_up_to, defBody s_l_up_to, defScope s_l_up_to, [], []⟩) rfl
  obtain ⟨fd11, F11⟩ := c.def_ 11 (d := ⟨("_law_sentences", none), "_law_sentences", "_law_sentences", defArgs s_l_sentences, defBody s_l_sentences, defScope s_l_sentences, [], []⟩) rfl
  obtain ⟨fd12, F12⟩ := c.def_ 12 (d := ⟨("_law_double", none), "_law_double", "_law_double", defArgs s_l_double, defBody s_l_double, defScope s_l_double, [], []⟩) rfl
  obtain ⟨fd13, F13⟩ := c.def_ 13 (d := ⟨("_law_good_counts", none), "_law_good_counts", "_law_good_counts", defArgs s_l_good_counts, defBody s_l_good_counts, defScope s_l_good_counts, [], []⟩) rfl
  obtain ⟨fd14, F14⟩ := c.def_ 14 (d := ⟨("_law_asked", none), "_law_asked", "_law_asked", defArgs s_l_asked, defBody s_l_asked, defScope s_l_asked, [], []⟩) rfl
  obtain ⟨fd15, F15⟩ := c.def_ 15 (d := ⟨("law", none), "law", "law", defArgs s_law, defBody s_law, defScope s_law, [], []⟩) rfl
  obtain ⟨e0, r0⟩ := He.ba ce
  exact ⟨fun i => [fd0, fd1, fd2, fd3, fd4, fd5, fd6, fd7, fd8, fd9, fd10, fd11, fd12, fd13, fd14, fd15].getD i fd0, {
    F_top_level := F0, g_top_level := He.glo_ok X G (c.fact 0 (f := .glo "top_level") rfl),
    F_rise_bound := F1, g_rise_bound := He.glo_ok X G (c.fact 1 (f := .glo "rise_bound") rfl),
    F_step_bound := F2, g_step_bound := He.glo_ok X G (c.fact 2 (f := .glo "step_bound") rfl),
    F_is_within := F3, g_is_within := He.glo_ok X G (c.fact 3 (f := .glo "is_within") rfl),
    F_l_store := F4, g_l_store := He.glo_ok X G (c.fact 4 (f := .glo "_law_store") rfl),
    F_l_take := F5, g_l_take := He.glo_ok X G (c.fact 5 (f := .glo "_law_take") rfl),
    F_l_pick := F6, g_l_pick := He.glo_ok X G (c.fact 6 (f := .glo "_law_pick") rfl),
    F_l_shuffled := F7, g_l_shuffled := He.glo_ok X G (c.fact 7 (f := .glo "_law_shuffled") rfl),
    F_l_alike := F8, g_l_alike := He.glo_ok X G (c.fact 8 (f := .glo "_law_alike") rfl),
    F_l_number := F9, g_l_number := He.glo_ok X G (c.fact 9 (f := .glo "_law_number") rfl),
    F_l_up_to := F10, g_l_up_to := He.glo_ok X G (c.fact 10 (f := .glo "_law_up_to") rfl),
    F_l_sentences := F11, g_l_sentences := He.glo_ok X G (c.fact 11 (f := .glo "_law_sentences") rfl),
    F_l_double := F12, g_l_double := He.glo_ok X G (c.fact 12 (f := .glo "_law_double") rfl),
    F_l_good_counts := F13, g_l_good_counts := He.glo_ok X G (c.fact 13 (f := .glo "_law_good_counts") rfl),
    F_l_asked := F14, g_l_asked := He.glo_ok X G (c.fact 14 (f := .glo "_law_asked") rfl),
    F_law := F15, g_law := He.glo_ok X G (c.fact 15 (f := .glo "law") rfl),
    b_bool := He.free_ok X G (c.fact 16 (f := .free "bool") rfl),
    b_dict := He.free_ok X G (c.fact 17 (f := .free "dict") rfl),
    b_int := He.free_ok X G (c.fact 18 (f := .free "int") rfl),
    b_isinstance := He.free_ok X G (c.fact 19 (f := .free "isinstance") rfl),
    b_len := He.free_ok X G (c.fact 20 (f := .free "len") rfl),
    b_list := He.free_ok X G (c.fact 21 (f := .free "list") rfl),
    b_max := He.free_ok X G (c.fact 22 (f := .free "max") rfl),
    b_min := He.free_ok X G (c.fact 23 (f := .free "min") rfl),
    b_range := He.free_ok X G (c.fact 24 (f := .free "range") rfl),
    b_reversed := He.free_ok X G (c.fact 25 (f := .free "reversed") rfl),
    b_sorted := He.free_ok X G (c.fact 26 (f := .free "sorted") rfl),
    b_str := He.free_ok X G (c.fact 27 (f := .free "str") rfl),
    b_tuple := He.free_ok X G (c.fact 28 (f := .free "tuple") rfl),
    m_COUNT_KEYS := glo_tup X G (c.fact 29 (f := .glo "COUNT_KEYS") rfl) e0 fun _ => .cons .str (.cons .str (.cons .str (.cons .str (.cons .str (.cons .str (.cons .str (.cons .str (.nil)))))))),
  }⟩

end L
open PySem PySem.W PySem.Calls PyProof.Rows L2 J
set_option maxHeartbeats 4000000 in
theorem PySem.Challenge.cw_keptjoined_k47_bounds_of_the_counts_holds : PySem.Challenge.rw_keptjoined_k47_bounds_of_the_counts.Holds := by
  w_on; o_law
  refine HandSHeadRun.head_any (r := OpenLaw.row PySem.Challenge.rw_keptjoined_k47_bounds_of_the_counts) (q := view (OpenLaw.row PySem.Challenge.rw_keptjoined_k47_bounds_of_the_counts).prog [19]) (H := L.hdK) (ob := L.hdO) (M := 1600) (loose := L.hdL) (d := HandSHeadRun.topDef (OpenLaw.row PySem.Challenge.rw_keptjoined_k47_bounds_of_the_counts).prog 19) (kwd := []) L.hdO_eq
    (by kernel_rfl) (fun s => by kernel_rfl) L.hdRun (by kernel_rfl) (by kernel_rfl) (by kernel_rfl) (by rfl) (by first | assumption | decide +kernel) (by decide +kernel) ⟨rfl, rfl, rfl, rfl, rfl, by decide +kernel⟩ ?hw ?hc
  case hw => w_witness2
  case hc =>
    refine L2.walk_ofE (l := PySem.Challenge.rw_keptjoined_k47_bounds_of_the_counts) (n := 63) (k := 5) (x := "_law_script") (CX := L2.CX0) rfl (by decide) (by kernel_rfl) ⟨rfl, by decide, by decide⟩ ?F (fun _ _ _ _ z => z)
    intro w mg fa h Y G hmg0
    obtain ⟨K, KX, c, ce⟩ := Y
    have hmg : mg ("law" : PySem.Str) = some (.ref fa) := by
      have e : (HandSHeadRun.topDef (OpenLaw.row PySem.Challenge.rw_keptjoined_k47_bounds_of_the_counts).prog 19).name = ("law" : PySem.Str) := by kernel_rfl
      rw [← e]
      exact hmg0
    obtain ⟨fdv, T⟩ := L.hdTxt KX G c ce
    have e := hmg.symm.trans T.g_law
    cases e
    have b := FunD.bindsA (ps := ["_law_script"]) T.F_law fun _ _ _ _ _ _ us hl => match us, hl with | [_], _ => rfl
    exact ⟨K, fdv 15, J.lowSp K L.sp_law, KX, fun s v => b s [v] rfl, fun H a ns hl _ hS => J.low_start L.start_law H a ns hl hS, fun base _ _ => L.ok_law T⟩
