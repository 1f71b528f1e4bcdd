import PyProof.Rows.All
import Wide.All
import OpenK.AllK
import Wide.FinOn
import KE.KStateDown
import HandS.ForMost
import HandS.Flow
import HandS.Conv
import HandS.IsInst
import HandS.Wide
import HandS.Style
import HandS.More
import HandS.SortInts
import HandS.Defaults
import HandS.Rev
import HandS.TupAny
import HandS.Ends
import HandS.Head0
import HandS.Head1
import HandS.Head2
import HandS.HeadEnd
import HandS.HeadHook1
import HandS.HeadHook2
import PySem.Challenge.RW_keptjoined_k16_shapes_judged
set_option Elab.async false
set_option linter.all false
set_option maxRecDepth 100000
set_option maxHeartbeats 1000000
/-! J1: a second reading, over data: trees of values in place of addresses, and a small map of the objects that change. -/
namespace J
open PySem PySem.Spec PyProof.Rows L2

/-! ### data -/
inductive D where
  | non | bl (b : Bool) | int (i : Int) | str (x : Str) | ty (n : String) | ref (a : Addr)
  | tup (xs : List D) | lst (xs : List D) | rol (xs : List D) | dct (kvs : List (Key × D)) | ins (C : Addr) (fs : List (Str × D))

/-- an object that may still change -/
inductive MO where
  | lst (xs : List D) | dct (kvs : List (Key × D)) | ins (C : Addr) (fs : List (Str × D))
abbrev Mu := Addr → Option MO
def mup (μ : Mu) (a : Addr) (o : MO) : Mu := fun b => if b = a then some o else μ b
theorem mup_same {μ : Mu} {a : Addr} {o : MO} : mup μ a o a = some o := if_pos rfl
theorem mup_ne {μ : Mu} {a b : Addr} {o : MO} (h : b ≠ a) : mup μ a o b = μ b := if_neg h
theorem mup_mup {μ : Mu} {a : Addr} {o u : MO} : mup (mup μ a o) a u = mup μ a u := by
  funext b; unfold mup; split <;> rfl
theorem mup_self {μ : Mu} {a : Addr} {o : MO} (h : μ a = some o) : mup μ a o = μ := by
  funext b; unfold mup; split
  · next e => rw [e, h]
  · rfl
def mdel (μ : Mu) (a : Addr) : Mu := fun b => if b = a then none else μ b

mutual
inductive Rep (K : PySem.W.Frag) (F : Hp) : V → D → Prop
  | non : Rep K F .non .non
  | bl {b} : Rep K F (.bl b) (.bl b)
  | int {i} : Rep K F (.int i) (.int i)
  | str {x} : Rep K F (.str x) (.str x)
  | ty {n} : Rep K F (.ty n) (.ty n)
  | ref {a} : Rep K F (.ref a) (.ref a)
  | tup {a vs ds} : SqT K F a vs → Reps K F vs ds → Rep K F (.ref a) (.tup ds)
  | lst {a vs ds} : F a = some (.lst vs) → Reps K F vs ds → Rep K F (.ref a) (.lst ds)
  | rol {a vs ds} : SqL K F a vs → Reps K F vs ds → Rep K F (.ref a) (.rol ds)
  | dct {a kvs kds} : F a = some (.dK kvs) → RepK K F kvs kds → Rep K F (.ref a) (.dct kds)
  | ins {a C dx fs fds} : F a = some (.ins C dx fs) → RepF K F fs fds → Rep K F (.ref a) (.ins C fds)
inductive Reps (K : PySem.W.Frag) (F : Hp) : List V → List D → Prop
  | nil : Reps K F [] []
  | cons {v d vs ds} : Rep K F v d → Reps K F vs ds → Reps K F (v :: vs) (d :: ds)
inductive RepK (K : PySem.W.Frag) (F : Hp) : List (Key × V) → List (Key × D) → Prop
  | nil : RepK K F [] []
  | cons {k v d vs ds} : Rep K F v d → RepK K F vs ds → RepK K F ((k, v) :: vs) ((k, d) :: ds)
inductive RepF (K : PySem.W.Frag) (F : Hp) : List (Str × V) → List (Str × D) → Prop
  | nil : RepF K F [] []
  | cons {k v d vs ds} : Rep K F v d → RepF K F vs ds → RepF K F ((k, v) :: vs) ((k, d) :: ds)
end

section
variable {K : PySem.W.Frag} {F F' : Hp}
theorem sqt_mono {a : Addr} {xs : List V} (e : Same F F') (h : SqT K F a xs) : SqT K F' a xs := by
  rcases h with (h | ⟨o, h⟩) | h
  · exact .inl (.inl (e _ _ h))
  · exact .inl (.inr ⟨o, e _ _ h⟩)
  · exact .inr h
mutual
theorem Rep.mono (e : Same F F') {v : V} {d : D} (h : Rep K F v d) : Rep K F' v d := by
  cases h with
  | non => exact .non
  | bl => exact .bl
  | int => exact .int
  | str => exact .str
  | ty => exact .ty
  | ref => exact .ref
  | tup h r => exact .tup (sqt_mono e h) (Reps.mono e r)
  | lst h r => exact .lst (e _ _ h) (Reps.mono e r)
  | rol h r => exact .rol (e.seq h) (Reps.mono e r)
  | dct h r => exact .dct (e _ _ h) (RepK.mono e r)
  | ins h r => exact .ins (e _ _ h) (RepF.mono e r)
theorem Reps.mono (e : Same F F') {v : List V} {d : List D} (h : Reps K F v d) : Reps K F' v d := by
  cases h with
  | nil => exact .nil
  | cons h r => exact .cons (Rep.mono e h) (Reps.mono e r)
theorem RepK.mono (e : Same F F') {v : List (Key × V)} {d : List (Key × D)} (h : RepK K F v d) : RepK K F' v d := by
  cases h with
  | nil => exact .nil
  | cons h r => exact .cons (Rep.mono e h) (RepK.mono e r)
theorem RepF.mono (e : Same F F') {v : List (Str × V)} {d : List (Str × D)} (h : RepF K F v d) : RepF K F' v d := by
  cases h with
  | nil => exact .nil
  | cons h r => exact .cons (Rep.mono e h) (RepF.mono e r)
end
theorem Reps.length : ∀ {vs : List V} {ds : List D}, Reps K F vs ds → vs.length = ds.length
  | _, _, .nil => rfl
  | _, _, .cons _ r => congrArg (· + 1) (Reps.length r)
theorem Reps.get : ∀ {vs : List V} {ds : List D} {i : Nat} {d : D}, Reps K F vs ds → ds[i]? = some d → ∃ v, vs[i]? = some v ∧ Rep K F v d
  | _, _, _, _, .nil, e => by simp at e
  | _, _, 0, _, .cons r _, e => by simp at e; subst e; exact ⟨_, rfl, r⟩
  | _, _, i + 1, d, .cons _ t, e => by
    obtain ⟨u, h1, h2⟩ := Reps.get (i := i) (d := d) t (by simpa using e)
    exact ⟨u, by simpa using h1, h2⟩
theorem Reps.append : ∀ {vs ws : List V} {ds es : List D}, Reps K F vs ds → Reps K F ws es → Reps K F (vs ++ ws) (ds ++ es)
  | _, _, _, _, .nil, s => s
  | _, _, _, _, .cons r t, s => .cons r (Reps.append t s)
theorem Reps.set {v : V} {d : D} (r : Rep K F v d) : ∀ {vs : List V} {ds : List D} (i : Nat), Reps K F vs ds → Reps K F (vs.set i v) (ds.set i d)
  | _, _, _, .nil => .nil
  | _, _, 0, .cons _ t => .cons r t
  | _, _, i + 1, .cons q t => .cons q (Reps.set r i t)
theorem Reps.take : ∀ {vs : List V} {ds : List D} (n : Nat), Reps K F vs ds → Reps K F (vs.take n) (ds.take n)
  | _, _, 0, _ => .nil
  | _, _, _ + 1, .nil => .nil
  | _, _, n + 1, .cons r t => .cons r (Reps.take n t)
theorem Reps.drop : ∀ {vs : List V} {ds : List D} (n : Nat), Reps K F vs ds → Reps K F (vs.drop n) (ds.drop n)
  | _, _, 0, r => r
  | _, _, _ + 1, .nil => .nil
  | _, _, n + 1, .cons _ t => Reps.drop n t
theorem Reps.dropLast {vs : List V} {ds : List D} (h : Reps K F vs ds) : Reps K F vs.dropLast ds.dropLast := by
  rw [List.dropLast_eq_take, List.dropLast_eq_take, h.length]
  exact h.take _
theorem Reps.reverse : ∀ {vs : List V} {ds : List D}, Reps K F vs ds → Reps K F vs.reverse ds.reverse
  | _, _, .nil => .nil
  | _, _, .cons r t => by
    rw [List.reverse_cons, List.reverse_cons]
    exact (Reps.reverse t).append (.cons r .nil)
theorem Reps.ints : ∀ {vs : List V} {ns : List Int}, Reps K F vs (ns.map D.int) → vs = ns.map V.int
  | _, [], .nil => rfl
  | _, n :: ns, .cons r t => by
    cases r
    rw [Reps.ints t]; rfl
theorem Reps.strs : ∀ {vs : List V} {ns : List Str}, Reps K F vs (ns.map D.str) → vs = ns.map V.str
  | _, [], .nil => rfl
  | _, n :: ns, .cons r t => by
    cases r
    rw [Reps.strs t]; rfl
theorem Reps.bls : ∀ {vs : List V} {ns : List Bool}, Reps K F vs (ns.map D.bl) → vs = ns.map V.bl
  | _, [], .nil => rfl
  | _, n :: ns, .cons r t => by
    cases r
    rw [Reps.bls t]; rfl
theorem Reps.of_ints : ∀ (ns : List Int), Reps K F (ns.map V.int) (ns.map D.int)
  | [] => .nil
  | _ :: ns => .cons .int (Reps.of_ints ns)
theorem Reps.of_strs : ∀ (ns : List Str), Reps K F (ns.map V.str) (ns.map D.str)
  | [] => .nil
  | _ :: ns => .cons .str (Reps.of_strs ns)
end

/-! ### the world: what is settled (F), what stands (H), what may change (μ) -/
inductive RepM (K : PySem.W.Frag) (F : Hp) : HO → MO → Prop
  | lst {vs ds} : Reps K F vs ds → RepM K F (.lst vs) (.lst ds)
  | dct {vs ds} : RepK K F vs ds → RepM K F (.dK vs) (.dct ds)
  | ins {C dx vs ds} : RepF K F vs ds → RepM K F (.ins C dx vs) (.ins C ds)
theorem RepM.mono {K : PySem.W.Frag} {F F' : Hp} (e : Same F F') {v : HO} {d : MO} (h : RepM K F v d) : RepM K F' v d := by
  cases h with
  | lst r => exact .lst (r.mono e)
  | dct r => exact .dct (r.mono e)
  | ins r => exact .ins (r.mono e)
structure Wd (K : PySem.W.Frag) (F H : Hp) (μ : Mu) : Prop where
  sub : Same F H
  mts : ∀ a o, μ a = some o → F a = none ∧ ∃ ho, H a = some ho ∧ RepM K F ho o
structure Gr (F H : Hp) (μ : Mu) (F' H' : Hp) (μ' : Mu) : Prop where
  ff : Same F F'
  fr : ∀ b o, H b = some o → F b = none → μ b = none → H' b = some o ∧ F' b = none ∧ μ' b = none
theorem Gr.refl {F H : Hp} {μ : Mu} : Gr F H μ F H μ := ⟨Same.refl _, fun _ _ a b c => ⟨a, b, c⟩⟩
theorem Gr.trans {F H F1 H1 F2 H2 : Hp} {μ μ1 μ2 : Mu} (a : Gr F H μ F1 H1 μ1) (b : Gr F1 H1 μ1 F2 H2 μ2) : Gr F H μ F2 H2 μ2 :=
  ⟨a.ff.trans b.ff, fun x o h1 h2 h3 => by obtain ⟨p, q, r⟩ := a.fr x o h1 h2 h3; exact b.fr x o p q r⟩
abbrev Sg := List (Option D)
abbrev Sv := L2.St
def RepO (K : PySem.W.Frag) (F : Hp) : Option V → Option D → Prop
  | some v, some d => Rep K F v d
  | _, none => True
  | none, some _ => False
abbrev RepE (K : PySem.W.Frag) (F : Hp) : Sv → Sg → Prop := Paired (RepO K F)
theorem RepE.mono {K : PySem.W.Frag} {F F' : Hp} (e : Same F F') {σ : Sv} {δ : Sg} (h : RepE K F σ δ) : RepE K F' σ δ :=
  Paired.mapP h fun a b r => by
    cases a <;> cases b <;> first | exact Rep.mono e r | exact r
theorem RepE.get {K : PySem.W.Frag} {F : Hp} : ∀ {σ : Sv} {δ : Sg} {i : Nat} {d : D}, RepE K F σ δ → δ[i]? = some (some d) → ∃ v, σ[i]? = some (some v) ∧ Rep K F v d
  | _, _, _, _, .nil, e => by simp at e
  | (some v) :: _, _, 0, d, .cons r _, e => by
    simp at e
    subst e
    exact ⟨v, rfl, r⟩
  | none :: _, _, 0, d, .cons r _, e => by
    simp at e
    subst e
    exact r.elim
  | _, _, i + 1, d, .cons _ t, e => by
    obtain ⟨u, h1, h2⟩ := RepE.get (i := i) (d := d) t (by simpa using e)
    exact ⟨u, by simpa using h1, h2⟩
theorem RepE.set {K : PySem.W.Frag} {F : Hp} {v : V} {d : D} (r : Rep K F v d) : ∀ {σ : Sv} {δ : Sg} (i : Nat), RepE K F σ δ → RepE K F (σ.set i (some v)) (δ.set i (some d))
  | _, _, _, .nil => .nil
  | _, _, 0, .cons _ t => .cons r t
  | _, _, i + 1, .cons q t => .cons q (RepE.set r i t)
theorem RepE.wipe1 {K : PySem.W.Frag} {F : Hp} : ∀ {σ : Sv} {δ : Sg} (i : Nat), RepE K F σ δ → RepE K F (σ.set i none) (δ.set i none)
  | _, _, _, .nil => .nil
  | _, _, 0, .cons _ t => .cons trivial t
  | _, _, i + 1, .cons q t => .cons q (RepE.wipe1 i t)
/-- what is carried along: a wish of the world that every growth keeps (the wish of exceptions) -/
structure Zw where
  p : Hp → Hp → Mu → Prop
  up : ∀ {F H μ F' H' μ'}, p F H μ → Gr F H μ F' H' μ' → p F' H' μ'
def Z0 : Zw := ⟨fun _ _ _ => True, fun _ _ => trivial⟩
structure Mt (K : PySem.W.Frag) (Z : Zw) (F : Hp) (σ : Sv) (H : Hp) (δ : Sg) (μ : Mu) : Prop where
  wd : Wd K F H μ
  env : RepE K F σ δ
  z : Z.p F H μ
theorem Mt.step {K : PySem.W.Frag} {Z : Zw} {F H F' H' : Hp} {σ : Sv} {δ : Sg} {μ μ' : Mu} (m : Mt K Z F σ H δ μ) (g : Gr F H μ F' H' μ') (w : Wd K F' H' μ') : Mt K Z F' σ H' δ μ' :=
  ⟨w, m.env.mono g.ff, Z.up m.z g⟩

/-! ### small moves of the world -/
section
variable {K : PySem.W.Frag} {F H : Hp} {μ : Mu}
/-- a new settled object -/
theorem Wd.settle {p : Addr} {o : HO} (w : Wd K F H μ) (hp : H p = none) : Wd K (upd F p o) (upd H p o) μ ∧ Gr F H μ (upd F p o) (upd H p o) μ ∧ F p = none := by
  have fp : F p = none := by
    cases h : F p with
    | none => rfl
    | some u => rw [w.sub p u h] at hp; cases hp
  have ff : Same F (upd F p o) := fun b u e => by rw [upd_ne (ne_of_none e fp)]; exact e
  refine ⟨⟨fun b u e => ?_, fun a u e => ?_⟩, ⟨ff, fun b u h1 h2 h3 => ?_⟩, fp⟩
  · by_cases hb : b = p
    · subst hb; rw [upd_same] at e ⊢; exact e
    · rw [upd_ne hb] at e ⊢; exact w.sub b u e
  · obtain ⟨h1, ho, h2, h3⟩ := w.mts a u e
    have ha : a ≠ p := ne_of_none h2 hp
    exact ⟨by rw [upd_ne ha]; exact h1, ho, by rw [upd_ne ha]; exact h2, h3.mono ff⟩
  · have hb : b ≠ p := ne_of_none h1 hp
    exact ⟨by rw [upd_ne hb]; exact h1, by rw [upd_ne hb]; exact h2, h3⟩
/-- a new object that may change -/
theorem Wd.fresh {p : Addr} {o : HO} {m : MO} (w : Wd K F H μ) (hp : H p = none) (r : RepM K F o m) : Wd K F (upd H p o) (mup μ p m) ∧ Gr F H μ F (upd H p o) (mup μ p m) ∧ μ p = none := by
  have fp : F p = none := by
    cases h : F p with
    | none => rfl
    | some u => rw [w.sub p u h] at hp; cases hp
  have mp : μ p = none := by
    cases h : μ p with
    | none => rfl
    | some u =>
      obtain ⟨_, ho, h2, _⟩ := w.mts p u h
      rw [h2] at hp; cases hp
  refine ⟨⟨fun b u e => ?_, fun a u e => ?_⟩, ⟨Same.refl _, fun b u h1 h2 h3 => ?_⟩, mp⟩
  · have hb : b ≠ p := ne_of_none e fp
    rw [upd_ne hb]; exact w.sub b u e
  · by_cases ha : a = p
    · subst ha
      rw [mup_same] at e; cases e
      exact ⟨fp, o, upd_same, r⟩
    · rw [mup_ne ha] at e
      obtain ⟨h1, ho, h2, h3⟩ := w.mts a u e
      exact ⟨h1, ho, by rw [upd_ne ha]; exact h2, h3⟩
  · have hb : b ≠ p := ne_of_none h1 hp
    exact ⟨by rw [upd_ne hb]; exact h1, h2, by rw [mup_ne hb]; exact h3⟩
/-- an object changed -/
theorem Wd.write {p : Addr} {o : HO} {m m0 : MO} (w : Wd K F H μ) (hm : μ p = some m0) (r : RepM K F o m) : Wd K F (upd H p o) (mup μ p m) ∧ Gr F H μ F (upd H p o) (mup μ p m) := by
  obtain ⟨fp, _, _, _⟩ := w.mts p m0 hm
  refine ⟨⟨fun b u e => ?_, fun a u e => ?_⟩, ⟨Same.refl _, fun b u h1 h2 h3 => ?_⟩⟩
  · have hb : b ≠ p := ne_of_none e fp
    rw [upd_ne hb]; exact w.sub b u e
  · by_cases ha : a = p
    · subst ha
      rw [mup_same] at e; cases e
      exact ⟨fp, o, upd_same, r⟩
    · rw [mup_ne ha] at e
      obtain ⟨h1, ho, h2, h3⟩ := w.mts a u e
      exact ⟨h1, ho, by rw [upd_ne ha]; exact h2, h3⟩
  · have hb : b ≠ p := fun z => by rw [z, hm] at h3; cases h3
    exact ⟨by rw [upd_ne hb]; exact h1, h2, by rw [mup_ne hb]; exact h3⟩
end
end J

namespace J
open PySem PySem.Spec PyProof.Rows L2

/-! ### readings over data -/
abbrev QE := D → Mu → Prop
abbrev TE2 := Sg → Mu → QE → Prop
abbrev TT2 := Sg → Mu → (Bool → Mu → Prop) → Prop
abbrev TA2 := Sg → Mu → (List D → Mu → Prop) → Prop
structure Ends2 where
  nx : Sg → Mu → Prop
  rt : QE
  bk : Sg → Mu → Prop := fun _ _ => False
  ct : Sg → Mu → Prop := fun _ _ => False
abbrev TS2 := Ends2 → Sg → Mu → Prop
/-- an operation on values -/
abbrev O1 := D → Mu → QE → Prop
abbrev O2 := D → D → Mu → QE → Prop
abbrev OA := List D → Mu → QE → Prop
abbrev OM := D → List D → Mu → QE → Prop

section
variable (K : PySem.W.Frag) (Z : Zw)
def lowE (t : TE2) : TE := fun σ H Q => ∃ F δ μ Q0, Mt K Z F σ H δ μ ∧ t δ μ Q0 ∧ ∀ d μ' F' H' v, Q0 d μ' → Gr F H μ F' H' μ' → Wd K F' H' μ' → Rep K F' v d → Q v H'
def lowT (t : TT2) : TT := fun σ H Q => ∃ F δ μ Q0, Mt K Z F σ H δ μ ∧ t δ μ Q0 ∧ ∀ b μ' F' H', Q0 b μ' → Gr F H μ F' H' μ' → Wd K F' H' μ' → Q b H'
def lowA (t : TA2) : TA := fun σ H Q => ∃ F δ μ Q0, Mt K Z F σ H δ μ ∧ t δ μ Q0 ∧ ∀ ds μ' F' H' vs, Q0 ds μ' → Gr F H μ F' H' μ' → Wd K F' H' μ' → Reps K F' vs ds → Q vs H'
/-- the ends of statements -/
structure EI (F H : Hp) (μ : Mu) (D2 : Ends2) (D : Ends) : Prop where
  nx : ∀ δ' μ' F' σ' H', D2.nx δ' μ' → Gr F H μ F' H' μ' → Mt K Z F' σ' H' δ' μ' → D.nx σ' H'
  rt : ∀ d μ' F' H' v, D2.rt d μ' → Gr F H μ F' H' μ' → Wd K F' H' μ' → Rep K F' v d → D.rt v H'
  bk : ∀ δ' μ' F' σ' H', D2.bk δ' μ' → Gr F H μ F' H' μ' → Mt K Z F' σ' H' δ' μ' → D.bk σ' H'
  ct : ∀ δ' μ' F' σ' H', D2.ct δ' μ' → Gr F H μ F' H' μ' → Mt K Z F' σ' H' δ' μ' → D.ct σ' H'
def lowS (t : TS2) : TS := fun D σ H => ∃ F δ μ D2, Mt K Z F σ H δ μ ∧ t D2 δ μ ∧ EI K Z F H μ D2 D
/-- an operation's: the values as they lie -/
def lowO1 (r : O1) : V → Hp → VK → Prop := fun x H Q => ∃ F μ d Q0, Wd K F H μ ∧ Rep K F x d ∧ r d μ Q0 ∧ ∀ d' μ' F' H' v, Q0 d' μ' → Gr F H μ F' H' μ' → Wd K F' H' μ' → Rep K F' v d' → Q v H'
def lowO2 (r : O2) : R2 := fun x y H Q => ∃ F μ d e Q0, Wd K F H μ ∧ Rep K F x d ∧ Rep K F y e ∧ r d e μ Q0 ∧ ∀ d' μ' F' H' v, Q0 d' μ' → Gr F H μ F' H' μ' → Wd K F' H' μ' → Rep K F' v d' → Q v H'
def lowOA (r : OA) : List V → Hp → VK → Prop := fun xs H Q => ∃ F μ ds Q0, Wd K F H μ ∧ Reps K F xs ds ∧ r ds μ Q0 ∧ ∀ d' μ' F' H' v, Q0 d' μ' → Gr F H μ F' H' μ' → Wd K F' H' μ' → Rep K F' v d' → Q v H'
def lowOM (r : OM) : V → List V → Hp → VK → Prop := fun x xs H Q => ∃ F μ d ds Q0, Wd K F H μ ∧ Rep K F x d ∧ Reps K F xs ds ∧ r d ds μ Q0 ∧ ∀ d' μ' F' H' v, Q0 d' μ' → Gr F H μ F' H' μ' → Wd K F' H' μ' → Rep K F' v d' → Q v H'
end
theorem EI.step {K : PySem.W.Frag} {Z : Zw} {F H F1 H1 : Hp} {μ μ1 : Mu} {D2 : Ends2} {D : Ends} (e : EI K Z F H μ D2 D) (g : Gr F H μ F1 H1 μ1) : EI K Z F1 H1 μ1 D2 D :=
  ⟨fun δ' μ' F' σ' H' h g' m => e.nx δ' μ' F' σ' H' h (g.trans g') m, fun d μ' F' H' v h g' w r => e.rt d μ' F' H' v h (g.trans g') w r,
   fun δ' μ' F' σ' H' h g' m => e.bk δ' μ' F' σ' H' h (g.trans g') m, fun δ' μ' F' σ' H' h g' m => e.ct δ' μ' F' σ' H' h (g.trans g') m⟩

/-! ### weaker readings -/
section
variable {X : Cx}
theorem pe_imp {e : Expr} {t t' : TE} (h : PE X e t) (i : ∀ σ H Q, t' σ H Q → t σ H Q) : PE X e t' := ⟨fun pins s σ H Q I q => h.run pins s σ H Q I (i _ _ _ q)⟩
theorem pt_imp {e : Expr} {t t' : TT} (h : PT X e t) (i : ∀ σ H Q, t' σ H Q → t σ H Q) : PT X e t' := ⟨fun pins s σ H Q I q => h.run pins s σ H Q I (i _ _ _ q)⟩
theorem pw_imp {e : Expr} {t t' : TT} (h : PW X e t) (i : ∀ σ H Q, t' σ H Q → t σ H Q) : PW X e t' := ⟨fun wh pins s σ H Q I q => h.run wh pins s σ H Q I (i _ _ _ q)⟩
theorem pa_imp {e : List Expr} {t t' : TA} (h : PA X e t) (i : ∀ σ H Q, t' σ H Q → t σ H Q) : PA X e t' := ⟨fun pos pins s σ H Q I q => h.run pos pins s σ H Q I (i _ _ _ q)⟩
theorem ps_imp {e : Stmt} {t t' : TS} (h : PS X e t) (i : ∀ D σ H, t' D σ H → t D σ H) : PS X e t' := ⟨fun pins s σ H D I q => h.run pins s σ H D I (i _ _ _ q)⟩
theorem pss_imp {e : List Stmt} {t t' : TS} (h : PSs X e t) (i : ∀ D σ H, t' D σ H → t D σ H) : PSs X e t' := ⟨fun pins s σ H D I q => h.run pins s σ H D I (i _ _ _ q)⟩
theorem pg_imp {e : Expr} {t t' : TG} (h : PG X e t) (i : ∀ v σ H Q, t' v σ H Q → t v σ H Q) : PG X e t' := ⟨fun pins s σ H v u Q I r q => h.run pins s σ H v u Q I r (i _ _ _ _ q)⟩
end

section
variable {X : Cx} {Z : Zw}
abbrev E2 (X : Cx) (Z : Zw) (e : Expr) (t : TE2) : Prop := PE X e (lowE X.K Z t)
abbrev T2 (X : Cx) (Z : Zw) (e : Expr) (t : TT2) : Prop := PT X e (lowT X.K Z t)
abbrev W2 (X : Cx) (Z : Zw) (e : Expr) (t : TT2) : Prop := PW X e (lowT X.K Z t)
abbrev A2 (X : Cx) (Z : Zw) (e : List Expr) (t : TA2) : Prop := PA X e (lowA X.K Z t)
abbrev S2 (X : Cx) (Z : Zw) (e : Stmt) (t : TS2) : Prop := PS X e (lowS X.K Z t)
abbrev B2 (X : Cx) (Z : Zw) (e : List Stmt) (t : TS2) : Prop := PSs X e (lowS X.K Z t)

/-! ### names, constants -/
def jVar (i : Nat) : TE2 := fun δ μ Q => ∃ d, δ[i]? = some (some d) ∧ Q d μ
def jC (d : D) : TE2 := fun _ μ Q => Q d μ
theorem jv (i : Nat) {x : Str} {pos : Pos} (hN : X.N[i]? = some x := by rfl) (hv : Vis X.env.scope x := by first | exact Or.inl rfl | exact Or.inr (Or.inl rfl) | exact Or.inr (Or.inr rfl)) (hd : (x == ("__debug__" : Str)) = false := by decide)
    (hcd : (x == ("__classdict__" : Str)) = false := by decide) : E2 X Z (.Name x pos) (jVar i) := by
  refine pe_imp (pe_var hN hv hd hcd) ?_
  rintro σ H Q ⟨F, δ, μ, Q0, m, ⟨d, e, q⟩, k⟩
  obtain ⟨v, e1, r⟩ := m.env.get e
  exact ⟨v, e1, k d μ F H v q .refl m.wd r⟩
theorem jc_of {e : Expr} {v : V} {d : D} (h : PE X e (tC v)) (r : ∀ F, Rep X.K F v d) : E2 X Z e (jC d) := by
  refine pe_imp h ?_
  rintro σ H Q ⟨F, δ, μ, Q0, m, q, k⟩
  exact k d μ F H v q .refl m.wd (r F)
theorem jint {i j pos} : E2 X Z (.Constant (.int i) j pos) (jC (.int i)) := jc_of pe_int fun _ => .int
theorem jbl {i j pos} : E2 X Z (.Constant (.bool i) j pos) (jC (.bl i)) := jc_of pe_bl fun _ => .bl
theorem jnon {j pos} : E2 X Z (.Constant .none j pos) (jC .non) := jc_of pe_non fun _ => .non
theorem jstr {x j pos} : E2 X Z (.Constant (.str x) j pos) (jC (.str x)) := jc_of pe_str fun _ => .str
theorem jglob {x : Str} {v : V} {d : D} {u : Value} {pos : Pos} (hg : Gl X x) (hm : X.mg x = some u) (r : RelV v u) (r2 : ∀ F, Rep X.K F v d) (hd : (x == ("__debug__" : Str)) = false := by decide) : E2 X Z (.Name x pos) (jC d) := jc_of (pe_glob hg hm r hd) r2
theorem jbltn {x : Str} {n : String} {pos : Pos} (hg : Gl X x) (hm : X.mg x = none) (hv : bootBuiltins x = some (.type n)) (hn : x ≠ "__name__" := by decide) (hd : (x == ("__debug__" : Str)) = false := by decide) : E2 X Z (.Name x pos) (jC (.ty n)) :=
  jc_of (pe_bltn (v := .ty n) hg hm hv rfl hn hd) fun _ => .ty

/-! ### operators -/
def jOp (r : O2) (ta tb : TE2) : TE2 := fun δ μ Q => ta δ μ fun x μ1 => tb δ μ1 fun y μ2 => r x y μ2 Q
def jUn (r : O1) (ta : TE2) : TE2 := fun δ μ Q => ta δ μ fun x μ1 => r x μ1 Q
theorem low_op {K : PySem.W.Frag} {r : O2} {ta tb : TE2} {σ : Sv} {H : Hp} {Q : VK} (h : lowE K Z (jOp r ta tb) σ H Q) : lowE K Z ta σ H fun x H1 => lowE K Z tb σ H1 fun y H2 => lowO2 K r x y H2 Q := by
  obtain ⟨F, δ, μ, Q0, m, q, k⟩ := h
  refine ⟨F, δ, μ, _, m, q, ?_⟩
  intro x μ1 F1 H1 v q1 g1 w1 r1
  refine ⟨F1, δ, μ1, _, m.step g1 w1, q1, ?_⟩
  intro y μ2 F2 H2 u q2 g2 w2 r2
  refine ⟨F2, μ2, x, y, Q0, w2, r1.mono g2.ff, r2, q2, ?_⟩
  intro z μ3 F3 H3 v3 q3 g3 w3 r3
  exact k z μ3 F3 H3 v3 q3 ((g1.trans g2).trans g3) w3 r3
theorem low_un {K : PySem.W.Frag} {r : O1} {ta : TE2} {σ : Sv} {H : Hp} {Q : VK} (h : lowE K Z (jUn r ta) σ H Q) : lowE K Z ta σ H fun x H1 => lowO1 K r x H1 Q := by
  obtain ⟨F, δ, μ, Q0, m, q, k⟩ := h
  refine ⟨F, δ, μ, _, m, q, ?_⟩
  intro x μ1 F1 H1 v q1 g1 w1 r1
  refine ⟨F1, μ1, x, Q0, w1, r1, q1, ?_⟩
  intro z μ3 F3 H3 v3 q3 g3 w3 r3
  exact k z μ3 F3 H3 v3 q3 (g1.trans g3) w3 r3
theorem jop {a b : Expr} {op : Operator} {pos : Pos} {r : O2} {ta tb : TE2} (ho : OpR X (binaryOp op) (lowO2 X.K r)) (ha : E2 X Z a ta) (hb : E2 X Z b tb) : E2 X Z (.BinOp a op b pos) (jOp r ta tb) :=
  pe_imp (pe_op ho ha hb) fun _ _ _ h => low_op h
theorem jun {a : Expr} {op : UnaryOp} {pos : Pos} {r : O1} {ta : TE2} (ho : UnR X (unaryOp op) (lowO1 X.K r)) (ha : E2 X Z a ta) : E2 X Z (.UnaryOp op a pos) (jUn r ta) :=
  pe_imp (pe_un ho ha) fun _ _ _ h => low_un h
/-- comparisons: as values, as tests -/
def jTest (t : TE2) : TT2 := fun δ μ Q => t δ μ fun x μ1 => ∃ k, x = .bl k ∧ Q k μ1
theorem low_test {K : PySem.W.Frag} {t : TE2} {σ : Sv} {H : Hp} {Q : Bool → Hp → Prop} (h : lowT K Z (jTest t) σ H Q) : lowE K Z t σ H fun x H' => ∃ k, x = .bl k ∧ Q k H' := by
  obtain ⟨F, δ, μ, Q0, m, q, k⟩ := h
  refine ⟨F, δ, μ, _, m, q, ?_⟩
  rintro x μ1 F1 H1 v ⟨b, rfl, q1⟩ g1 w1 r1
  cases r1
  exact ⟨b, rfl, k b μ1 F1 H1 q1 g1 w1⟩
theorem jcmp {a b : Expr} {op : CmpOp} {pos : Pos} {r : O2} {ta tb : TE2} (ho : OpR X (compareOp op) (lowO2 X.K r)) (ha : E2 X Z a ta) (hb : E2 X Z b tb) (hm : behindInMarks op b = false) : E2 X Z (.Compare a [op] [b] pos) (jOp r ta tb) :=
  pe_imp (pe_cmpR ho ha hb hm) fun _ _ _ h => low_op h
theorem jtcmp {a b : Expr} {op : CmpOp} {pos : Pos} {r : O2} {ta tb : TE2} (ho : OpR X (compareOp op) (lowO2 X.K r)) (ha : E2 X Z a ta) (hb : E2 X Z b tb) (hm : behindInMarks op b = false) : T2 X Z (.Compare a [op] [b] pos) (jTest (jOp r ta tb)) :=
  pt_imp (pt_cmpR ho ha hb hm) fun _ _ _ h => low_op (low_test h)
/-- a value that is a bool, as a test -/
theorem jtval {e : Expr} {t : TE2} (h : E2 X Z e t) (he : ∀ whole, isTrue e X.env whole = (do let v ← whole; standAt e.pos; holding [v] (truthy v)) := by intro _; rfl) : T2 X Z e (jTest t) :=
  pt_imp (pt_val h he) fun _ _ _ q => low_test q
/-- a < b < c -/
def jChain (r r' : O2) (ta tb tc : TE2) : TE2 := fun δ μ Q => ta δ μ fun x μ1 => tb δ μ1 fun y μ2 => r x y μ2 fun z μ3 => ∃ k, z = .bl k ∧ (if k = true then tc δ μ3 fun w μ4 => r' y w μ4 Q else Q (.bl false) μ3)
theorem low_chain {K : PySem.W.Frag} {r r' : O2} {ta tb tc : TE2} {σ : Sv} {H : Hp} {Q : VK} (h : lowE K Z (jChain r r' ta tb tc) σ H Q) : tChain (lowO2 K r) (lowO2 K r') (lowE K Z ta) (lowE K Z tb) (lowE K Z tc) σ H Q := by
  obtain ⟨F, δ, μ, Q0, m, q, k⟩ := h
  refine ⟨F, δ, μ, _, m, q, ?_⟩
  intro x μ1 F1 H1 v q1 g1 w1 r1
  refine ⟨F1, δ, μ1, _, m.step g1 w1, q1, ?_⟩
  intro y μ2 F2 H2 u q2 g2 w2 r2
  refine ⟨F2, μ2, x, y, _, w2, r1.mono g2.ff, r2, q2, ?_⟩
  rintro z μ3 F3 H3 v3 ⟨b, rfl, q3⟩ g3 w3 r3
  cases r3
  refine ⟨b, rfl, ?_⟩
  have m3 := (m.step g1 w1).step (g2.trans g3) w3
  cases b with
  | true =>
    rw [if_pos rfl] at q3 ⊢
    refine ⟨F3, δ, μ3, _, m3, q3, ?_⟩
    intro z4 μ4 F4 H4 v4 q4 g4 w4 r4
    refine ⟨F4, μ4, y, z4, _, w4, (r2.mono g3.ff).mono g4.ff, r4, q4, ?_⟩
    intro z5 μ5 F5 H5 v5 q5 g5 w5 r5
    exact k z5 μ5 F5 H5 v5 q5 ((((g1.trans g2).trans g3).trans g4).trans g5) w5 r5
  | false =>
    rw [if_neg Bool.false_ne_true] at q3 ⊢
    exact k _ μ3 F3 H3 _ q3 ((g1.trans g2).trans g3) w3 .bl

theorem jchain {a b c : Expr} {op op' : CmpOp} {pos : Pos} {r r' : O2} {ta tb tc : TE2} (ho : OpR X (compareOp op) (lowO2 X.K r)) (ho' : OpR X (compareOp op') (lowO2 X.K r')) (ha : E2 X Z a ta) (hb : E2 X Z b tb) (hc : E2 X Z c tc)
    (hm : lastMarks [op, op'] [b, c] = false := by with_unfolding_all rfl) : E2 X Z (.Compare a [op, op'] [b, c] pos) (jChain r r' ta tb tc) := pe_imp (pe_chain ho ho' ha hb hc hm) fun _ _ _ h => low_chain h
theorem jtchain {a b c : Expr} {op op' : CmpOp} {pos : Pos} {r r' : O2} {ta tb tc : TE2} (ho : OpR X (compareOp op) (lowO2 X.K r)) (ho' : OpR X (compareOp op') (lowO2 X.K r')) (ha : E2 X Z a ta) (hb : E2 X Z b tb) (hc : E2 X Z c tc)
    (hm : lastMarks [op, op'] [b, c] = false := by with_unfolding_all rfl) : T2 X Z (.Compare a [op, op'] [b, c] pos) (jTest (jChain r r' ta tb tc)) := pt_imp (pt_chain ho ho' ha hb hc hm) fun _ _ _ h => low_chain (low_test h)

/-! ### and, or, not, if .. else -/
def jAnd (t u : TT2) : TT2 := fun δ μ Q => t δ μ fun c μ1 => if c = true then u δ μ1 Q else Q false μ1
def jOr (t u : TT2) : TT2 := fun δ μ Q => t δ μ fun c μ1 => if c = true then Q true μ1 else u δ μ1 Q
def jNot (t : TT2) : TT2 := fun δ μ Q => t δ μ fun c μ1 => Q (!c) μ1
theorem jw1 {op : BoolOp} {a : Expr} {pos : Pos} {t : TT2} (h : PW X (.BoolOp op [a] pos) (lowT X.K Z t)) : W2 X Z (.BoolOp op [a] pos) t := h
theorem jwand {a b : Expr} {rest : List Expr} {pos : Pos} {t u : TT2} (ha : T2 X Z a t) (hb : W2 X Z (.BoolOp .And (b :: rest) pos) u) : W2 X Z (.BoolOp .And (a :: b :: rest) pos) (jAnd t u) := by
  refine pw_imp (pw_and ha hb) ?_
  rintro σ H Q ⟨F, δ, μ, Q0, m, q, k⟩
  refine ⟨F, δ, μ, _, m, q, ?_⟩
  rintro b μ1 F1 H1 q1 g1 w1
  cases b with
  | true =>
    rw [if_pos rfl] at q1 ⊢
    exact ⟨F1, δ, μ1, Q0, m.step g1 w1, q1, fun b μ2 F2 H2 q2 g2 w2 => k b μ2 F2 H2 q2 (g1.trans g2) w2⟩
  | false =>
    rw [if_neg Bool.false_ne_true] at q1 ⊢
    exact k false μ1 F1 H1 q1 g1 w1
theorem jwor {a b : Expr} {rest : List Expr} {pos : Pos} {t u : TT2} (ha : T2 X Z a t) (hb : W2 X Z (.BoolOp .Or (b :: rest) pos) u) : W2 X Z (.BoolOp .Or (a :: b :: rest) pos) (jOr t u) := by
  refine pw_imp (pw_or ha hb) ?_
  rintro σ H Q ⟨F, δ, μ, Q0, m, q, k⟩
  refine ⟨F, δ, μ, _, m, q, ?_⟩
  rintro b μ1 F1 H1 q1 g1 w1
  cases b with
  | true =>
    rw [if_pos rfl] at q1 ⊢
    exact k true μ1 F1 H1 q1 g1 w1
  | false =>
    rw [if_neg Bool.false_ne_true] at q1 ⊢
    exact ⟨F1, δ, μ1, Q0, m.step g1 w1, q1, fun b μ2 F2 H2 q2 g2 w2 => k b μ2 F2 H2 q2 (g1.trans g2) w2⟩
theorem jtnot {a : Expr} {pos : Pos} {t : TT2} (ha : T2 X Z a t) : T2 X Z (.UnaryOp .Not a pos) (jNot t) := by
  refine pt_imp (pt_not ha) ?_
  rintro σ H Q ⟨F, δ, μ, Q0, m, q, k⟩
  exact ⟨F, δ, μ, _, m, q, fun b μ1 F1 H1 q1 g1 w1 => k (!b) μ1 F1 H1 q1 g1 w1⟩
/-- as values, of bools -/
def jAndV (ta tb : TE2) : TE2 := fun δ μ Q => ta δ μ fun x μ1 => ∃ c, x = .bl c ∧ if c = true then tb δ μ1 Q else Q (.bl false) μ1
def jOrV (ta tb : TE2) : TE2 := fun δ μ Q => ta δ μ fun x μ1 => ∃ c, x = .bl c ∧ if c = true then Q (.bl true) μ1 else tb δ μ1 Q
def jNotV (ta : TE2) : TE2 := fun δ μ Q => ta δ μ fun x μ1 => ∃ c, x = .bl c ∧ Q (.bl (!c)) μ1
theorem jone {op : BoolOp} {a : Expr} {pos : Pos} {t : TE2} (h : E2 X Z a t) : E2 X Z (.BoolOp op [a] pos) t := pe_one h
theorem jand {a b : Expr} {rest : List Expr} {pos : Pos} {ta tb : TE2} (ha : E2 X Z a ta) (hb : E2 X Z (.BoolOp .And (b :: rest) pos) tb) : E2 X Z (.BoolOp .And (a :: b :: rest) pos) (jAndV ta tb) := by
  refine pe_imp (pe_and ha hb) ?_
  rintro σ H Q ⟨F, δ, μ, Q0, m, q, k⟩
  refine ⟨F, δ, μ, _, m, q, ?_⟩
  rintro x μ1 F1 H1 v ⟨b, rfl, q1⟩ g1 w1 r1
  cases r1
  refine ⟨b, rfl, ?_⟩
  cases b with
  | true =>
    rw [if_pos rfl] at q1 ⊢
    exact ⟨F1, δ, μ1, Q0, m.step g1 w1, q1, fun d μ2 F2 H2 v2 q2 g2 w2 r2 => k d μ2 F2 H2 v2 q2 (g1.trans g2) w2 r2⟩
  | false =>
    rw [if_neg Bool.false_ne_true] at q1 ⊢
    exact k _ μ1 F1 H1 _ q1 g1 w1 .bl
theorem jor {a b : Expr} {rest : List Expr} {pos : Pos} {ta tb : TE2} (ha : E2 X Z a ta) (hb : E2 X Z (.BoolOp .Or (b :: rest) pos) tb) : E2 X Z (.BoolOp .Or (a :: b :: rest) pos) (jOrV ta tb) := by
  refine pe_imp (pe_or ha hb) ?_
  rintro σ H Q ⟨F, δ, μ, Q0, m, q, k⟩
  refine ⟨F, δ, μ, _, m, q, ?_⟩
  rintro x μ1 F1 H1 v ⟨b, rfl, q1⟩ g1 w1 r1
  cases r1
  refine ⟨b, rfl, ?_⟩
  cases b with
  | true =>
    rw [if_pos rfl] at q1 ⊢
    exact k _ μ1 F1 H1 _ q1 g1 w1 .bl
  | false =>
    rw [if_neg Bool.false_ne_true] at q1 ⊢
    exact ⟨F1, δ, μ1, Q0, m.step g1 w1, q1, fun d μ2 F2 H2 v2 q2 g2 w2 r2 => k d μ2 F2 H2 v2 q2 (g1.trans g2) w2 r2⟩
theorem jnot {a : Expr} {pos : Pos} {ta : TE2} (ha : E2 X Z a ta) : E2 X Z (.UnaryOp .Not a pos) (jNotV ta) := by
  refine pe_imp (pe_not ha) ?_
  rintro σ H Q ⟨F, δ, μ, Q0, m, q, k⟩
  refine ⟨F, δ, μ, _, m, q, ?_⟩
  rintro x μ1 F1 H1 v ⟨b, rfl, q1⟩ g1 w1 r1
  cases r1
  exact ⟨b, rfl, k _ μ1 F1 H1 _ q1 g1 w1 .bl⟩
def jIf (t : TT2) (ta tb : TE2) : TE2 := fun δ μ Q => t δ μ fun c μ1 => if c = true then ta δ μ1 Q else tb δ μ1 Q
theorem jife {c a b : Expr} {pos : Pos} {t : TT2} {ta tb : TE2} (hc : T2 X Z c t) (ha : E2 X Z a ta) (hb : E2 X Z b tb) : E2 X Z (.IfExp c a b pos) (jIf t ta tb) := by
  refine pe_imp (pe_ifExp hc ha hb) ?_
  rintro σ H Q ⟨F, δ, μ, Q0, m, q, k⟩
  refine ⟨F, δ, μ, _, m, q, ?_⟩
  rintro b μ1 F1 H1 q1 g1 w1
  cases b with
  | true =>
    rw [if_pos rfl] at q1 ⊢
    exact ⟨F1, δ, μ1, Q0, m.step g1 w1, q1, fun d μ2 F2 H2 v2 q2 g2 w2 r2 => k d μ2 F2 H2 v2 q2 (g1.trans g2) w2 r2⟩
  | false =>
    rw [if_neg Bool.false_ne_true] at q1 ⊢
    exact ⟨F1, δ, μ1, Q0, m.step g1 w1, q1, fun d μ2 F2 H2 v2 q2 g2 w2 r2 => k d μ2 F2 H2 v2 q2 (g1.trans g2) w2 r2⟩

/-! ### argument lists and displays -/
def jNil : TA2 := fun _ μ Q => Q [] μ
def jCons (ta : TE2) (tr : TA2) : TA2 := fun δ μ Q => ta δ μ fun x μ1 => tr δ μ1 fun xs μ2 => Q (x :: xs) μ2
theorem ja0 : A2 X Z [] jNil := by
  refine pa_imp pa_nil ?_
  rintro σ H Q ⟨F, δ, μ, Q0, m, q, k⟩
  exact k [] μ F H [] q .refl m.wd .nil
theorem ja {e : Expr} {es : List Expr} {te : TE2} {t : TA2} (ha : E2 X Z e te) (hr : A2 X Z es t) (hs : starEach (e :: es) X.env = (false, eval e X.env) :: starEach es X.env := by rfl) : A2 X Z (e :: es) (jCons te t) := by
  refine pa_imp (pa_cons ha hr hs) ?_
  rintro σ H Q ⟨F, δ, μ, Q0, m, q, k⟩
  refine ⟨F, δ, μ, _, m, q, ?_⟩
  intro x μ1 F1 H1 v q1 g1 w1 r1
  refine ⟨F1, δ, μ1, _, m.step g1 w1, q1, ?_⟩
  intro xs μ2 F2 H2 vs q2 g2 w2 r2
  exact k (x :: xs) μ2 F2 H2 (v :: vs) q2 (g1.trans g2) w2 (.cons (r1.mono g2.ff) r2)
/-- a new list: settled, or one that may change -/
def NewL (xs : List D) (μ : Mu) (Q : QE) : Prop := Q (.lst xs) μ ∨ ∀ p, μ p = none → Q (.ref p) (mup μ p (.lst xs))
/-- a new dict -/
def NewD (xs : List (Key × D)) (μ : Mu) (Q : QE) : Prop := Q (.dct xs) μ ∨ ∀ p, μ p = none → Q (.ref p) (mup μ p (.dct xs))
theorem newL_ok {K : PySem.W.Frag} {F H : Hp} {μ : Mu} {xs : List D} {vs : List V} {Q0 : QE} {Q : VK} {p : Addr} (w : Wd K F H μ) (hp : H p = none) (r : Reps K F vs xs) (n : NewL xs μ Q0)
    (k : ∀ d μ' F' H' v, Q0 d μ' → Gr F H μ F' H' μ' → Wd K F' H' μ' → Rep K F' v d → Q v H') : Q (.ref p) (upd H p (.lst vs)) := by
  rcases n with n | n
  · obtain ⟨w1, g1, fp⟩ := w.settle (o := .lst vs) hp
    exact k _ μ _ _ _ n g1 w1 (.lst upd_same (r.mono g1.ff))
  · obtain ⟨w1, g1, mp⟩ := w.fresh hp (.lst r)
    exact k _ _ _ _ _ (n p mp) g1 w1 .ref
theorem newD_ok {K : PySem.W.Frag} {F H : Hp} {μ : Mu} {xs : List (Key × D)} {vs : List (Key × V)} {Q0 : QE} {Q : VK} {p : Addr} (w : Wd K F H μ) (hp : H p = none) (r : RepK K F vs xs) (n : NewD xs μ Q0)
    (k : ∀ d μ' F' H' v, Q0 d μ' → Gr F H μ F' H' μ' → Wd K F' H' μ' → Rep K F' v d → Q v H') : Q (.ref p) (upd H p (.dK vs)) := by
  rcases n with n | n
  · obtain ⟨w1, g1, fp⟩ := w.settle (o := .dK vs) hp
    exact k _ μ _ _ _ n g1 w1 (.dct upd_same (r.mono g1.ff))
  · obtain ⟨w1, g1, mp⟩ := w.fresh hp (.dct r)
    exact k _ _ _ _ _ (n p mp) g1 w1 .ref
theorem newT_ok {K : PySem.W.Frag} {F H : Hp} {μ : Mu} {xs : List D} {vs : List V} {Q0 : QE} {Q : VK} {p : Addr} (w : Wd K F H μ) (hp : H p = none) (r : Reps K F vs xs) (n : Q0 (.tup xs) μ)
    (k : ∀ d μ' F' H' v, Q0 d μ' → Gr F H μ F' H' μ' → Wd K F' H' μ' → Rep K F' v d → Q v H') : Q (.ref p) (upd H p (.tup vs)) := by
  obtain ⟨w1, g1, fp⟩ := w.settle (o := .tup vs) hp
  exact k _ μ _ _ _ n g1 w1 (.tup (SqT.of upd_same) (r.mono g1.ff))
def jTup (t : TA2) : TE2 := fun δ μ Q => t δ μ fun xs μ1 => xs.length ≤ sizeLine ∧ Q (.tup xs) μ1
def jLst (t : TA2) : TE2 := fun δ μ Q => t δ μ fun xs μ1 => xs.length ≤ sizeLine ∧ NewL xs μ1 Q
theorem jtup {es : List Expr} {pos : Pos} {x1} {t : TA2} (h : A2 X Z es t) : E2 X Z (.Tuple es x1 pos) (jTup t) := by
  refine pe_imp (pe_tup h) ?_
  rintro σ H Q ⟨F, δ, μ, Q0, m, q, k⟩
  refine ⟨F, δ, μ, _, m, q, ?_⟩
  rintro xs μ1 F1 H1 vs ⟨hl, q1⟩ g1 w1 r1
  refine ⟨by rw [r1.length]; exact hl, fun p hp => ?_⟩
  exact newT_ok w1 hp r1 q1 fun d μ' F' H' v q' g' w' r' => k d μ' F' H' v q' (g1.trans g') w' r'
theorem jlst {es : List Expr} {pos : Pos} {t : TA2} (h : A2 X Z es t) : E2 X Z (.List es pos) (jLst t) := by
  refine pe_imp (pe_lst h) ?_
  rintro σ H Q ⟨F, δ, μ, Q0, m, q, k⟩
  refine ⟨F, δ, μ, _, m, q, ?_⟩
  rintro xs μ1 F1 H1 vs ⟨hl, q1⟩ g1 w1 r1
  refine ⟨by rw [r1.length]; exact hl, fun p hp => ?_⟩
  exact newL_ok w1 hp r1 q1 fun d μ' F' H' v q' g' w' r' => k d μ' F' H' v q' (g1.trans g') w' r'

/-! ### calls of built-ins, subscripts, methods of built-in types -/
def jCB (r : OA) (t : TA2) : TE2 := fun δ μ Q => t δ μ fun ds μ1 => r ds μ1 Q
theorem low_cb {K : PySem.W.Frag} {r : OA} {t : TA2} {σ : Sv} {H : Hp} {Q : VK} (h : lowE K Z (jCB r t) σ H Q) : lowA K Z t σ H fun xs H1 => lowOA K r xs H1 Q := by
  obtain ⟨F, δ, μ, Q0, m, q, k⟩ := h
  refine ⟨F, δ, μ, _, m, q, ?_⟩
  intro xs μ1 F1 H1 vs q1 g1 w1 r1
  exact ⟨F1, μ1, xs, Q0, w1, r1, q1, fun d μ' F' H' v q' g' w' r' => k d μ' F' H' v q' (g1.trans g') w' r'⟩
theorem jcallB {x : Str} {id : String} {r : OA} {e : Expr} {es : List Expr} {t : TA2} {p pos : Pos} (hc : CallR X (.builtin id) (lowOA X.K r)) (hg : Gl X x) (hm : X.mg x = none) (hv : bootBuiltins x = some (.builtin id)) (ha : A2 X Z (e :: es) t)
    (h : PE X (.Call (.Name x p) (e :: es) [] pos) (tCB (lowOA X.K r) (lowA X.K Z t))) : E2 X Z (.Call (.Name x p) (e :: es) [] pos) (jCB r t) := pe_imp h fun _ _ _ q => low_cb q
theorem jix {a b : Expr} {pos : Pos} {r : O2} {ta tb : TE2} (hr : IxR X (lowO2 X.K r)) (ha : E2 X Z a ta) (hb : E2 X Z b tb) (hs : PlainIx b) : E2 X Z (.Subscript a b pos) (jOp r ta tb) :=
  pe_imp (pe_ix hr ha hb hs) fun _ _ _ h => low_op h
def jIf0 : Bool := true

/-! ### statements -/
def jNext : TS2 := fun D δ μ => D.nx δ μ
def jSeq (t u : TS2) : TS2 := fun D δ μ => t { D with nx := u D } δ μ
theorem jb0 : B2 X Z [] jNext := by
  refine pss_imp pss_nil ?_
  rintro D σ H ⟨F, δ, μ, D2, m, q, e⟩
  exact e.nx δ μ F σ H q .refl m
theorem jb {st : Stmt} {rest : List Stmt} {t u : TS2} (h1 : S2 X Z st t) (h2 : B2 X Z rest u) : B2 X Z (st :: rest) (jSeq t u) := by
  refine pss_imp (pss_cons h1 h2) ?_
  rintro D σ H ⟨F, δ, μ, D2, m, q, e⟩
  refine ⟨F, δ, μ, _, m, q, ?_, e.rt, e.bk, e.ct⟩
  intro δ' μ' F' σ' H' q' g' m'
  exact ⟨F', δ', μ', D2, m', q', e.step g'⟩
theorem jb1 {st : Stmt} {t : TS2} (h1 : S2 X Z st t) : B2 X Z [st] t := pss_one h1
def jBreak : TS2 := fun D δ μ => D.bk δ μ
def jCont : TS2 := fun D δ μ => D.ct δ μ
theorem js_pass {pos : Pos} : S2 X Z (.Pass pos) jNext := by
  refine ps_imp ps_pass ?_
  rintro D σ H ⟨F, δ, μ, D2, m, q, e⟩
  exact e.nx δ μ F σ H q .refl m
theorem js_break {pos : Pos} : S2 X Z (.Break pos) jBreak := by
  refine ps_imp ps_break ?_
  rintro D σ H ⟨F, δ, μ, D2, m, q, e⟩
  exact e.bk δ μ F σ H q .refl m
theorem js_cont {pos : Pos} : S2 X Z (.Continue pos) jCont := by
  refine ps_imp ps_continue ?_
  rintro D σ H ⟨F, δ, μ, D2, m, q, e⟩
  exact e.ct δ μ F σ H q .refl m
def jDrop (t : TE2) : TS2 := fun D δ μ => t δ μ fun _ μ1 => D.nx δ μ1
theorem js_expr {e : Expr} {pos : Pos} {t : TE2} (he : E2 X Z e t) (hs : swapsWith e none pos.line X.env = pure false := by rfl) : S2 X Z (.Expr e pos) (jDrop t) := by
  refine ps_imp (ps_expr he hs) ?_
  rintro D σ H ⟨F, δ, μ, D2, m, q, e⟩
  exact ⟨F, δ, μ, _, m, q, fun d μ' F' H' v q' g' w' r' => e.nx δ μ' F' σ H' q' g' (m.step g' w')⟩
def jRet (t : TE2) : TS2 := fun D δ μ => t δ μ D.rt
theorem js_ret {e : Expr} {pos : Pos} {t : TE2} (he : E2 X Z e t) : S2 X Z (.Return (some e) pos) (jRet t) := by
  refine ps_imp (ps_ret he) ?_
  rintro D σ H ⟨F, δ, μ, D2, m, q, e⟩
  exact ⟨F, δ, μ, _, m, q, fun d μ' F' H' v q' g' w' r' => e.rt d μ' F' H' v q' g' w' r'⟩
def jRetN : TS2 := fun D _ μ => D.rt .non μ
theorem js_retN {pos : Pos} : S2 X Z (.Return none pos) jRetN := by
  refine ps_imp ps_retN ?_
  rintro D σ H ⟨F, δ, μ, D2, m, q, e⟩
  exact e.rt .non μ F H .non q .refl m.wd .non
def jIfS (c : TT2) (t u : TS2) : TS2 := fun D δ μ => c δ μ fun b μ1 => if b = true then t D δ μ1 else u D δ μ1
theorem js_if {c : Expr} {a b : List Stmt} {pos : Pos} {tc : TT2} {t u : TS2} (hc : T2 X Z c tc) (ha : B2 X Z a t) (hb : B2 X Z b u) : S2 X Z (.If c a b pos) (jIfS tc t u) := by
  refine ps_imp (ps_if hc ha hb) ?_
  rintro D σ H ⟨F, δ, μ, D2, m, q, e⟩
  refine ⟨F, δ, μ, _, m, q, ?_⟩
  rintro b μ1 F1 H1 q1 g1 w1
  cases b with
  | true =>
    rw [if_pos rfl] at q1 ⊢
    exact ⟨F1, δ, μ1, D2, m.step g1 w1, q1, e.step g1⟩
  | false =>
    rw [if_neg Bool.false_ne_true] at q1 ⊢
    exact ⟨F1, δ, μ1, D2, m.step g1 w1, q1, e.step g1⟩
/-- code that is never reached -/
def jNever : TS2 := fun _ _ _ => False
theorem js_never {st : Stmt} : S2 X Z st jNever := ps_imp ps_never fun _ _ _ ⟨_, _, _, _, _, q, _⟩ => q.elim

/-! ### targets -/
abbrev TG2 := D → Sg → Mu → (Sg → Mu → Prop) → Prop
abbrev TGs2 := List D → Sg → Mu → (Sg → Mu → Prop) → Prop
def lowG (K : PySem.W.Frag) (Z : Zw) (t : TG2) : TG := fun v σ H Q => ∃ F δ μ d Q0, Mt K Z F σ H δ μ ∧ Rep K F v d ∧ t d δ μ Q0 ∧ ∀ δ' μ' F' σ' H', Q0 δ' μ' → Gr F H μ F' H' μ' → Mt K Z F' σ' H' δ' μ' → Q σ' H'
def lowGs (K : PySem.W.Frag) (Z : Zw) (t : TGs2) : TGs := fun vs σ H Q => ∃ F δ μ ds Q0, Mt K Z F σ H δ μ ∧ Reps K F vs ds ∧ t ds δ μ Q0 ∧ ∀ δ' μ' F' σ' H', Q0 δ' μ' → Gr F H μ F' H' μ' → Mt K Z F' σ' H' δ' μ' → Q σ' H'
abbrev G2 (X : Cx) (Z : Zw) (e : Expr) (t : TG2) : Prop := PG X e (lowG X.K Z t)
def kName (i : Nat) : TG2 := fun d δ μ Q => Q (δ.set i (some d)) μ
theorem kg {i : Nat} {x : Str} {pos : Pos} (hN : X.N.Nodup) (hi : X.N[i]? = some x) (hx : Loc X.env.scope x) (hf : X.fn x = true ∨ X.env.scope.names.lookup x = some .local := by first | exact .inl rfl | exact .inr rfl | assumption) : G2 X Z (.Name x pos) (kName i) := by
  refine pg_imp (pg_name hN hi hx hf) ?_
  rintro v σ H Q ⟨F, δ, μ, d, Q0, m, r, q, k⟩
  exact k _ μ F _ H q .refl ⟨m.wd, m.env.set r i, m.z⟩
def jAsg (t : TE2) (g : TG2) : TS2 := fun D δ μ => t δ μ fun d μ1 => g d δ μ1 D.nx
theorem low_asg {K : PySem.W.Frag} {t : TE2} {g : TG2} {D : Ends} {σ : Sv} {H : Hp} (h : lowS K Z (jAsg t g) D σ H) : tAsg (lowE K Z t) (lowG K Z g) D σ H := by
  obtain ⟨F, δ, μ, D2, m, q, e⟩ := h
  refine ⟨F, δ, μ, _, m, q, ?_⟩
  intro d μ1 F1 H1 v q1 g1 w1 r1
  refine ⟨F1, δ, μ1, d, _, m.step g1 w1, r1, q1, ?_⟩
  intro δ' μ' F' σ' H' q' g' m'
  exact e.nx δ' μ' F' σ' H' q' (g1.trans g') m'
theorem js_asg {tg e : Expr} {pos : Pos} {t : TE2} {g : TG2} (he : E2 X Z e t) (hg : G2 X Z tg g) (hs : swapsWithSole [tg] e pos.line X.env = pure false := by rfl) (hw : swappedStores [tg] e X.env = pure none := by rfl)
    (h1 : (assignEach [tg] X.env).map (·.2) = [assign tg X.env] := by rfl) : S2 X Z (.Assign [tg] e pos) (jAsg t g) := ps_imp (ps_asg he hg hs hw h1) fun _ _ _ q => low_asg q
theorem js_set {i : Nat} {x : Str} {e : Expr} {t : TE2} {pos pos' : Pos} (hN : X.N.Nodup) (hi : X.N[i]? = some x) (hx : Loc X.env.scope x) (he : E2 X Z e t) (hs : swapsWith e (some (.Name x pos')) pos.line X.env = pure false := by rfl) (hf : X.fn x = true ∨ X.env.scope.names.lookup x = some .local := by first | exact .inl rfl | exact .inr rfl | assumption) :
    S2 X Z (.Assign [.Name x pos'] e pos) (jAsg t (kName i)) := by
  refine ps_imp (ps_set hN hi hx he hs hf) ?_
  rintro D σ H ⟨F, δ, μ, D2, m, q, e⟩
  refine ⟨F, δ, μ, _, m, q, ?_⟩
  intro d μ1 F1 H1 v q1 g1 w1 r1
  have m1 := m.step g1 w1
  exact e.nx _ μ1 F1 _ H1 q1 g1 ⟨w1, m1.env.set r1 i, m1.z⟩
/-- (a, b, ..) = a tuple -/
def kNil : TGs2 := fun ds δ μ Q => ds = [] ∧ Q δ μ
def kCons (t : TG2) (u : TGs2) : TGs2 := fun ds δ μ Q => ∃ d r, ds = d :: r ∧ t d δ μ fun δ' μ' => u r δ' μ' Q
def kTup (n : Nat) (t : TGs2) : TG2 := fun d δ μ Q => ∃ xs, d = .tup xs ∧ xs.length = n ∧ t xs δ μ Q
theorem kg0 : PGs X [] (lowGs X.K Z kNil) := ⟨fun pins s σ H vs us Q I r h => by
  obtain ⟨F, δ, μ, ds, Q0, m, r2, ⟨e, q⟩, k⟩ := h
  subst e
  cases r2
  exact (pgs_nil (X := X)).run pins s σ H [] us Q I r ⟨rfl, k δ μ F σ H q .refl m⟩⟩
theorem kgs {e : Expr} {es : List Expr} {t : TG2} {u : TGs2} (h1 : G2 X Z e t) (h2 : PGs X es (lowGs X.K Z u)) (hs : (assignEach (e :: es) X.env).map (·.2) = assign e X.env :: (assignEach es X.env).map (·.2) := by rfl) : PGs X (e :: es) (lowGs X.K Z (kCons t u)) :=
  ⟨fun pins s σ H vs us Q I r h => by
    obtain ⟨F, δ, μ, ds, Q0, m, r2, ⟨d, rr, e1, q⟩, k⟩ := h
    subst e1
    cases r2 with
    | cons ra rb =>
      refine (pgs_cons h1 h2 hs).run pins s σ H _ us Q I r ⟨_, _, rfl, F, δ, μ, d, _, m, ra, q, ?_⟩
      intro δ' μ' F' σ' H' q' g' m'
      exact ⟨F', δ', μ', rr, Q0, m', rb.mono g'.ff, q', fun δ2 μ2 F2 σ2 H2 q2 g2 m2 => k δ2 μ2 F2 σ2 H2 q2 (g'.trans g2) m2⟩⟩
theorem kgtup {es : List Expr} {k : Nat} {t : TGs2} {n : Nat} {pos : Pos} (hc : X.calm = true) (h : PGs X es (lowGs X.K Z t))
    (hn : (assignEach es X.env).length = n := by rfl) (hst : (assignEach es X.env).findIdx? (·.1) = none := by rfl) : G2 X Z (.Tuple es k pos) (kTup n t) := by
  refine pg_imp (pg_tup hc h hn hst) ?_
  rintro v σ H Q ⟨F, δ, μ, d, Q0, m, r, ⟨xs, rfl, hl, q⟩, k⟩
  cases r with
  | tup hq rs =>
    refine ⟨_, _, rfl, sqt_mono m.wd.sub hq, by rw [rs.length]; exact hl, F, δ, μ, xs, Q0, m, rs, q, k⟩
end
end J

namespace J
open PySem PySem.Spec PyProof.Rows L2

/-! ### a step of the proof's own: what may change becomes settled -/
def Upd (Q : QE) : QE := fun d μ => ∀ (K : PySem.W.Frag) F H v, Wd K F H μ → Rep K F v d → ∃ F' d' μ', Gr F H μ F' H μ' ∧ Wd K F' H μ' ∧ Rep K F' v d' ∧ Q d' μ'
theorem Upd.of {Q : QE} {d : D} {μ : Mu} (q : Q d μ) : Upd Q d μ := fun _ F _ _ w r => ⟨F, d, μ, .refl, w, r, q⟩
theorem Upd.imp {Q Q' : QE} {d : D} {μ : Mu} (q : Upd Q d μ) (h : ∀ d μ, Q d μ → Q' d μ) : Upd Q' d μ := fun K F H v w r => by
  obtain ⟨F', d', μ', g, w', r', q'⟩ := q K F H v w r
  exact ⟨F', d', μ', g, w', r', h _ _ q'⟩
theorem Upd.join {Q : QE} {d : D} {μ : Mu} (q : Upd (Upd Q) d μ) : Upd Q d μ := fun K F H v w r => by
  obtain ⟨F', d', μ', g, w', r', q'⟩ := q K F H v w r
  obtain ⟨F2, d2, μ2, g2, w2, r2, q2⟩ := q' K F' H v w' r'
  exact ⟨F2, d2, μ2, g.trans g2, w2, r2, q2⟩
def Le (μ' μ : Mu) : Prop := ∀ a o, μ' a = some o → μ a = some o
theorem Le.refl {μ : Mu} : Le μ μ := fun _ _ h => h
theorem Wd.drop {K : PySem.W.Frag} {F H : Hp} {μ μ' : Mu} (w : Wd K F H μ) (l : Le μ' μ) : Wd K F H μ' ∧ Gr F H μ F H μ' := by
  refine ⟨⟨w.sub, fun a o e => w.mts a o (l a o e)⟩, ⟨Same.refl _, fun b o h1 h2 h3 => ⟨h1, h2, ?_⟩⟩⟩
  cases e : μ' b with
  | none => rfl
  | some u => rw [l b u e] at h3; cases h3
theorem Upd.drop {Q : QE} {d : D} {μ μ' : Mu} (l : Le μ' μ) (q : Q d μ') : Upd Q d μ := fun K F H v w r => by
  obtain ⟨w', g⟩ := w.drop l
  exact ⟨F, d, μ', g, w', r, q⟩
theorem mdel_mup {μ : Mu} {p : Addr} {o : MO} (h : μ p = none) : mdel (mup μ p o) p = μ := by
  funext b
  unfold mdel mup
  split
  · next e => rw [e, h]
  · rfl
theorem Wd.freeze {K : PySem.W.Frag} {F H : Hp} {μ : Mu} {p : Addr} {o : HO} {m : MO} (w : Wd K F H μ) (hm : μ p = some m) (ho : H p = some o) : Wd K (upd F p o) H (mdel μ p) ∧ Gr F H μ (upd F p o) H (mdel μ p) := by
  obtain ⟨fp, _⟩ := w.mts p m hm
  have ff : Same F (upd F p o) := fun b u e => by rw [upd_ne (ne_of_none e fp)]; exact e
  refine ⟨⟨fun b u e => ?_, fun a u e => ?_⟩, ⟨ff, fun b u h1 h2 h3 => ?_⟩⟩
  · by_cases hb : b = p
    · subst hb; rw [upd_same] at e; rw [ho]; exact e
    · rw [upd_ne hb] at e; exact w.sub b u e
  · unfold mdel at e
    split at e
    · cases e
    · next ha =>
      obtain ⟨h1, ho', h2, h3⟩ := w.mts a u e
      exact ⟨by rw [upd_ne ha]; exact h1, ho', h2, h3.mono ff⟩
  · have hb : b ≠ p := fun z => by rw [z, hm] at h3; cases h3
    exact ⟨h1, by rw [upd_ne hb]; exact h2, by unfold mdel; rw [if_neg hb]; exact h3⟩
theorem Upd.lst {Q : QE} {p : Addr} {μ : Mu} {xs : List D} (h : μ p = some (.lst xs)) (q : Q (.lst xs) (mdel μ p)) : Upd Q (.ref p) μ := fun K F H v w r => by
  cases r
  obtain ⟨fp, ho, h1, h2⟩ := w.mts p _ h
  cases h2 with
  | lst rs =>
    obtain ⟨w', g⟩ := w.freeze h h1
    exact ⟨_, _, _, g, w', .lst upd_same (rs.mono g.ff), q⟩
theorem Upd.dct {Q : QE} {p : Addr} {μ : Mu} {xs : List (Key × D)} (h : μ p = some (.dct xs)) (q : Q (.dct xs) (mdel μ p)) : Upd Q (.ref p) μ := fun K F H v w r => by
  cases r
  obtain ⟨fp, ho, h1, h2⟩ := w.mts p _ h
  cases h2 with
  | dct rs =>
    obtain ⟨w', g⟩ := w.freeze h h1
    exact ⟨_, _, _, g, w', .dct upd_same (rs.mono g.ff), q⟩
theorem Upd.ins {Q : QE} {p C : Addr} {μ : Mu} {fs : List (Str × D)} (h : μ p = some (.ins C fs)) (q : Q (.ins C fs) (mdel μ p)) : Upd Q (.ref p) μ := fun K F H v w r => by
  cases r
  obtain ⟨fp, ho, h1, h2⟩ := w.mts p _ h
  cases h2 with
  | ins rs =>
    obtain ⟨w', g⟩ := w.freeze h h1
    exact ⟨_, _, _, g, w', .ins upd_same (rs.mono g.ff), q⟩

/-! ### promises -/
/-- an exception's class, its attributes, what may change behind it -/
abbrev Ex2 := Addr → List (Str × D) → Mu → Prop
abbrev Sp2 := List D → Mu → QE → Ex2 → Prop
def noEx : Ex2 := fun _ _ _ => False
def ZE (K : PySem.W.Frag) (ex : Ex2) (E : XK) : Hp → Hp → Mu → Prop := fun F H μ => ∀ C fs μ' F' H' dx vs, ex C fs μ' → Gr F H μ F' H' μ' → Wd K F' H' μ' → H' dx = some (.xd vs) → F' dx = none → RepF K F' vs fs → E (.ref C) (some dx) H'
def ZEw (K : PySem.W.Frag) (ex : Ex2) (E : XK) : Zw := ⟨ZE K ex E, fun h g => fun C fs μ' F' H' dx vs e g' w' hd hf r => h C fs μ' F' H' dx vs e (g.trans g') w' hd hf r⟩
theorem ZE.none {K : PySem.W.Frag} {E : XK} {F H : Hp} {μ : Mu} : ZE K noEx E F H μ := fun _ _ _ _ _ _ _ h => h.elim
def lowSp (K : PySem.W.Frag) (sp : Sp2) : Sp := fun vs H Q E => ∃ F μ ds Q0 ex, Wd K F H μ ∧ Reps K F vs ds ∧ sp ds μ Q0 ex ∧ (∀ d μ' F' H' v, Q0 d μ' → Gr F H μ F' H' μ' → Wd K F' H' μ' → Rep K F' v d → Q v H') ∧ ZE K ex E F H μ
section
variable {X : Cx} {Z : Zw} {CX : CXT} {k : Nat} {f C : Addr} {fd : FuncData} {ps : List Str} {sp : Sp2} {dvs : List V} {dds : List D} {ds : List Value} {E : XK} {ex : Ex2} {x m : Str} {p pos apos : Pos} {e o : Expr} {es : List Expr} {ta : TE2} {t : TA2}
def jCall (sp : Sp2) (dds : List D) (ex : Ex2) (t : TA2) : TE2 := fun δ μ Q => t δ μ fun ds μ1 => sp (ds ++ dds) μ1 (Upd Q) ex
theorem low_call {K : PySem.W.Frag} {σ : Sv} {H : Hp} {Q : VK} (hdd : ∀ F, Reps K F dvs dds) (hz : ∀ F H μ, Z.p F H μ → ZE K ex E F H μ) (h : lowE K Z (jCall sp dds ex t) σ H Q) : tCall (lowSp K sp) dvs E (lowA K Z t) σ H Q := by
  obtain ⟨F, δ, μ, Q0, m, q, k⟩ := h
  refine ⟨F, δ, μ, _, m, q, ?_⟩
  intro as μ1 F1 H1 vs q1 g1 w1 r1
  refine ⟨F1, μ1, as ++ dds, _, ex, w1, r1.append (hdd F1), q1, ?_, hz _ _ _ (Z.up m.z g1)⟩
  intro d μ2 F2 H2 v q2 g2 w2 r2
  obtain ⟨F3, d3, μ3, g3, w3, r3, q3⟩ := q2 K F2 H2 v w2 r2
  exact k d3 μ3 F3 H2 v q3 ((g1.trans g2).trans g3) w3 r3
/-- f(e, ..) -/
theorem jcall (F : FnOk X.prog X.w X.K X.mg X.base CX k f fd ps (lowSp X.K sp)) (hr : Room k X.A) (hg : Gl X x) (hm : X.mg x = some (.ref f)) (hk : PySem.W.keepIn X.K (.ref f) = true) (hb : Binds X.K fd ps ds) (hd : Vals dvs ds) (hdd : ∀ F, Reps X.K F dvs dds)
    (hx : Passes CX X E) (hz : ∀ F H μ, Z.p F H μ → ZE X.K ex E F H μ) (ha : A2 X Z (e :: es) t) (hdb : (x == ("__debug__" : Str)) = false := by decide) (he : starEach (e :: es) X.env = (false, eval e X.env) :: starEach es X.env := by rfl) (hpl : (backTo pos (starEach es X.env)).any (·.1) = false := by rfl) :
    E2 X Z (.Call (.Name x p) (e :: es) [] pos) (jCall sp dds ex t) := pe_imp (pe_call F hr hg hm hk hb hd hx ha hdb he hpl) fun _ _ _ h => low_call hdd hz h
/-- f() -/
theorem jcall0 (F : FnOk X.prog X.w X.K X.mg X.base CX k f fd ps (lowSp X.K sp)) (hr : Room k X.A) (hg : Gl X x) (hm : X.mg x = some (.ref f)) (hk : PySem.W.keepIn X.K (.ref f) = true) (hb : Binds X.K fd ps ds) (hd : Vals dvs ds) (hdd : ∀ F, Reps X.K F dvs dds)
    (hx : Passes CX X E) (hz : ∀ F H μ, Z.p F H μ → ZE X.K ex E F H μ) (hdb : (x == ("__debug__" : Str)) = false := by decide) : E2 X Z (.Call (.Name x p) [] [] pos) (jCall sp dds ex jNil) := by
  refine pe_imp (pe_call0 F hr hg hm hk hb hd hx hdb) fun σ H Q h => ?_
  obtain ⟨F, δ, μ, Q0, m, q, k⟩ := h
  refine ⟨F, μ, dds, _, ex, m.wd, hdd F, q, ?_, hz _ _ _ m.z⟩
  intro d μ2 F2 H2 v q2 g2 w2 r2
  obtain ⟨F3, d3, μ3, g3, w3, r3, q3⟩ := q2 X.K F2 H2 v w2 r2
  exact k d3 μ3 F3 H2 v q3 (g2.trans g3) w3 r3

/-! ### instances -/
def IsIns (x : D) (C : Addr) (fs : List (Str × D)) (μ : Mu) : Prop := x = .ins C fs ∨ ∃ a, x = .ref a ∧ μ a = some (.ins C fs)
theorem RepF.look {K : PySem.W.Frag} {F : Hp} (n : Str) : ∀ {fs : List (Str × V)} {ds : List (Str × D)}, RepF K F fs ds → (∀ d, ds.lookup n = some d → ∃ v, fs.lookup n = some v ∧ Rep K F v d) ∧ (ds.lookup n = none → fs.lookup n = none)
  | _, _, .nil => ⟨fun _ h => by simp at h, fun _ => rfl⟩
  | _, _, .cons (k := k) (v := v) (d := d) (vs := vs) (ds := ds) r t => by
    have ih := RepF.look n t
    by_cases h : n = k
    · subst h
      have e1 : List.lookup n ((n, d) :: ds) = some d := by simp [List.lookup]
      have e2 : List.lookup n ((n, v) :: vs) = some v := by simp [List.lookup]
      refine ⟨fun d' q => ?_, fun q => ?_⟩
      · rw [e1] at q; cases q
        exact ⟨v, e2, r⟩
      · rw [e1] at q; cases q
    · have hb : (n == k) = false := by simpa using h
      have e1 : List.lookup n ((k, d) :: ds) = List.lookup n ds := by simp [List.lookup, hb]
      have e2 : List.lookup n ((k, v) :: vs) = List.lookup n vs := by simp [List.lookup, hb]
      rw [e1, e2]
      exact ih
theorem ins_at {K : PySem.W.Frag} {F H : Hp} {μ : Mu} {v : V} {d : D} {C : Addr} {fs : List (Str × D)} (w : Wd K F H μ) (r : Rep K F v d) (i : IsIns d C fs μ) : ∃ a dx vs, v = .ref a ∧ H a = some (.ins C dx vs) ∧ RepF K F vs fs := by
  rcases i with rfl | ⟨a, rfl, h⟩
  · cases r with
    | ins h rs => exact ⟨_, _, _, rfl, w.sub _ _ h, rs⟩
  · cases r
    obtain ⟨_, ho, h1, h2⟩ := w.mts a _ h
    cases h2 with
    | ins rs => exact ⟨a, _, _, rfl, h1, rs⟩
def jFld (K : PySem.W.Frag) (ta : TE2) (f : Str) : TE2 := fun δ μ Q => ta δ μ fun x μ1 => ∃ C fs d, IsIns x C fs μ1 ∧ Cls K C ∧ NoAttr K C f ∧ fs.lookup f = some d ∧ Q d μ1
theorem jfld {f : Str} (he : E2 X Z e ta) (hb : attributeBase e f X.env (eval e X.env) = eval e X.env) : E2 X Z (.Attribute e f pos) (jFld X.K ta f) := by
  refine pe_imp (pe_fld he hb) ?_
  rintro σ H Q ⟨F, δ, μ, Q0, m, q, k⟩
  refine ⟨F, δ, μ, _, m, q, ?_⟩
  rintro d μ1 F1 H1 v ⟨C, fs, d', hi, hc, hn, hl, q1⟩ g1 w1 r1
  obtain ⟨a, dx, vs, rfl, ha, rs⟩ := ins_at w1 r1 hi
  obtain ⟨v', e1, r'⟩ := (rs.look f).1 _ hl
  exact ⟨a, C, dx, vs, v', rfl, ha, hc, hn, e1, k d' μ1 F1 H1 v' q1 g1 w1 r'⟩
def putD (f : Str) (v : D) : List (Str × D) → List (Str × D)
  | [] => [(f, v)]
  | (g, w) :: r => if g = f then (g, v) :: r else (g, w) :: putD f v r
theorem putF_def (f : Str) (v : V) (fs : List (Str × V)) : putF f v fs = match fs with
  | [] => [(f, v)]
  | (g, w) :: r => if g = f then (g, v) :: r else (g, w) :: putF f v r := by
  cases fs <;> rfl
theorem RepF.put {K : PySem.W.Frag} {F : Hp} {f : Str} {v : V} {d : D} (r : Rep K F v d) : ∀ {fs : List (Str × V)} {ds : List (Str × D)}, RepF K F fs ds → RepF K F (putF f v fs) (putD f d ds)
  | _, _, .nil => .cons r .nil
  | _, _, .cons (k := k) (v := v') (d := d') (vs := vs) (ds := ds) q t => by
    rw [putF_def]
    unfold putD
    by_cases h : k = f
    · subst h
      simp only [if_true]
      exact .cons r t
    · simp only [if_neg h]
      exact .cons q (RepF.put r t)
theorem RepF.length {K : PySem.W.Frag} {F : Hp} : ∀ {fs : List (Str × V)} {ds : List (Str × D)}, RepF K F fs ds → fs.length = ds.length
  | _, _, .nil => rfl
  | _, _, .cons _ t => congrArg (· + 1) (RepF.length t)
def jSetF (K : PySem.W.Frag) (ta tv : TE2) (f : Str) : TS2 := fun D δ μ => tv δ μ fun y μ1 => ta δ μ1 fun x μ2 => ∃ a C fs, x = .ref a ∧ μ2 a = some (.ins C fs) ∧ Cls K C ∧ NoAttr K C f ∧ fs.length < 1000 ∧ D.nx δ (mup μ2 a (.ins C (putD f y fs)))
theorem js_fld {f : Str} {value : Expr} {pos' : Pos} {tv : TE2} (ha : E2 X Z o ta) (hv : E2 X Z value tv) (hs : swapsWith value (some (.Attribute o f pos')) pos.line X.env = pure false) : S2 X Z (.Assign [.Attribute o f pos'] value pos) (jSetF X.K ta tv f) := by
  refine ps_imp (ps_fld ha hv hs) ?_
  rintro D σ H ⟨F, δ, μ, D2, m, q, e⟩
  refine ⟨F, δ, μ, _, m, q, ?_⟩
  intro y μ1 F1 H1 v q1 g1 w1 r1
  refine ⟨F1, δ, μ1, _, m.step g1 w1, q1, ?_⟩
  rintro x μ2 F2 H2 u ⟨a, C, fs, rfl, hi, hc, hn, hl, q2⟩ g2 w2 r2
  cases r2
  obtain ⟨_, ho, h1, h2⟩ := w2.mts a _ hi
  cases h2 with
  | ins rs =>
    obtain ⟨w3, g3⟩ := w2.write hi (RepM.ins (C := C) (RepF.put (f := f) (r1.mono g2.ff) rs))
    exact ⟨a, C, _, _, rfl, h1, hc, hn, by rw [rs.length]; exact hl, e.nx _ _ _ _ _ q2 ((g1.trans g2).trans g3) ((m.step g1 w1).step (g2.trans g3) w3)⟩
/-- o.m(e, ..) -/
def jMeth (C : Addr) (m : Str) (sp : Sp2) (dds : List D) (ex : Ex2) (ta : TE2) (t : TA2) : TE2 := fun δ μ Q => ta δ μ fun x μ1 => (∃ fs, IsIns x C fs μ1 ∧ fs.lookup m = none) ∧ t δ μ1 fun ds μ2 => sp (x :: (ds ++ dds)) μ2 (Upd Q) ex
theorem low_meth {K : PySem.W.Frag} {σ : Sv} {H : Hp} {Q : VK} (hdd : ∀ F, Reps K F dvs dds) (hz : ∀ F H μ, Z.p F H μ → ZE K ex E F H μ) (h : lowE K Z (jMeth C m sp dds ex ta t) σ H Q) : tMeth C m (lowSp K sp) dvs E (lowE K Z ta) (lowA K Z t) σ H Q := by
  obtain ⟨F, δ, μ, Q0, mm, q, k⟩ := h
  refine ⟨F, δ, μ, _, mm, q, ?_⟩
  rintro x μ0 F0 H0 xv ⟨⟨fs, hi, hl⟩, q0⟩ g0 w0 r0
  obtain ⟨a, dx, vs0, rfl, ha, rs⟩ := ins_at w0 r0 hi
  refine ⟨a, dx, vs0, rfl, ha, (rs.look m).2 hl, F0, δ, μ0, _, mm.step g0 w0, q0, ?_⟩
  intro as μ1 F1 H1 vs q1 g1 w1 r1
  refine ⟨F1, μ1, x :: (as ++ dds), _, ex, w1, .cons (r0.mono g1.ff) (r1.append (hdd F1)), q1, ?_, hz _ _ _ (Z.up mm.z (g0.trans g1))⟩
  intro d μ2 F2 H2 v q2 g2 w2 r2
  obtain ⟨F3, d3, μ3, g3, w3, r3, q3⟩ := q2 K F2 H2 v w2 r2
  exact k d3 μ3 F3 H2 v q3 (((g0.trans g1).trans g2).trans g3) w3 r3
theorem jmeth {pl : Sem Bool} (he : E2 X Z o ta) (c : Cls X.K C) (hm : Meth X.K C m f) (F : FnOk X.prog X.w X.K X.mg X.base CX k f fd ps (lowSp X.K sp)) (hr : Room k X.A) (hb : Binds X.K fd ps ds) (hd : Vals dvs ds) (hdd : ∀ F, Reps X.K F dvs dds) (hx : Passes CX X E) (hz : ∀ F H μ, Z.p F H μ → ZE X.K ex E F H μ) (ha : A2 X Z (e :: es) t)
    (hst : starEach (e :: es) X.env = (false, eval e X.env) :: starEach es X.env := by rfl) (hpl : (backTo pos (starEach es X.env)).any (·.1) = false := by rfl)
    (ht : eval (.Call (.Attribute o m apos) (e :: es) [] pos) X.env = (do
      let ov ← eval o X.env
      standAt apos.atName
      let (f, first) ← holding [ov] (getMethod ov m pl)
      callWith pos f first (backTo pos (starEach (e :: es) X.env)) (backToKw pos (keywordEach [] X.env))) := by rfl) : E2 X Z (.Call (.Attribute o m apos) (e :: es) [] pos) (jMeth C m sp dds ex ta t) :=
  pe_imp (pe_meth he c hm F hr hb hd hx ha hst hpl ht) fun _ _ _ h => low_meth hdd hz h
theorem jmeth0 {pl : Sem Bool} (he : E2 X Z o ta) (c : Cls X.K C) (hm : Meth X.K C m f) (F : FnOk X.prog X.w X.K X.mg X.base CX k f fd ps (lowSp X.K sp)) (hr : Room k X.A) (hb : Binds X.K fd ps ds) (hd : Vals dvs ds) (hdd : ∀ F, Reps X.K F dvs dds) (hx : Passes CX X E) (hz : ∀ F H μ, Z.p F H μ → ZE X.K ex E F H μ)
    (ht : eval (.Call (.Attribute o m apos) [] [] pos) X.env = (do
      let ov ← eval o X.env
      standAt apos.atName
      let (f, first) ← holding [ov] (getMethod ov m pl)
      callWith pos f first (backTo pos (starEach [] X.env)) (backToKw pos (keywordEach [] X.env))) := by rfl) : E2 X Z (.Call (.Attribute o m apos) [] [] pos) (jMeth C m sp dds ex ta jNil) := by
  refine pe_imp (pe_meth0 he c hm F hr hb hd hx ht) fun σ H Q h => ?_
  obtain ⟨F, δ, μ, Q0, mm, q, k⟩ := h
  refine ⟨F, δ, μ, _, mm, q, ?_⟩
  rintro x μ0 F0 H0 xv ⟨⟨fs, hi, hl⟩, q0⟩ g0 w0 r0
  obtain ⟨a, dx, vs0, rfl, ha, rs⟩ := ins_at w0 r0 hi
  refine ⟨a, dx, vs0, rfl, ha, (rs.look m).2 hl, F0, μ0, x :: dds, _, ex, w0, .cons r0 (hdd F0), q0, ?_, hz _ _ _ (Z.up mm.z g0)⟩
  intro d μ2 F2 H2 v q2 g2 w2 r2
  obtain ⟨F3, d3, μ3, g3, w3, r3, q3⟩ := q2 X.K F2 H2 v w2 r2
  exact k d3 μ3 F3 H2 v q3 ((g0.trans g2).trans g3) w3 r3
/-- C(e, ..) -/
def jMake (C : Addr) (sp : Sp2) (dds : List D) (ex : Ex2) (t : TA2) : TE2 := fun δ μ Q => t δ μ fun ds μ1 => ∀ x, μ1 x = none → sp (.ref x :: (ds ++ dds)) (mup μ1 x (.ins C [])) (fun d μ2 => d = .non ∧ Upd Q (.ref x) μ2) ex
theorem low_make {K : PySem.W.Frag} {F H : Hp} {μ : Mu} {Q : VK} {Q0 : QE} {as : List D} {vs : List V} (w : Wd K F H μ) (rs : Reps K F vs as) (hdd : ∀ F, Reps K F dvs dds) (hz : ZE K ex E F H μ)
    (q : ∀ x, μ x = none → sp (.ref x :: (as ++ dds)) (mup μ x (.ins C [])) (fun d μ2 => d = .non ∧ Upd Q0 (.ref x) μ2) ex)
    (k : ∀ d μ' F' H' v, Q0 d μ' → Gr F H μ F' H' μ' → Wd K F' H' μ' → Rep K F' v d → Q v H') :
    ∀ x dx, H x = none → H dx = none → dx ≠ x → lowSp K sp (.ref x :: (vs ++ dvs)) (upd (upd H dx (.own x)) x (.ins C dx [])) (fun v H2 => v = .non ∧ Q (.ref x) H2) E := by
  intro x dx hx hdx ne
  have w1 : Wd K F (upd H dx (.own x)) μ ∧ Gr F H μ F (upd H dx (.own x)) μ := by
    have fd : F dx = none := by
      cases h : F dx with
      | none => rfl
      | some u => rw [w.sub dx u h] at hdx; cases hdx
    refine ⟨⟨fun b u e => by rw [upd_ne (ne_of_none e fd)]; exact w.sub b u e, fun a u e => ?_⟩, ⟨Same.refl _, fun b u h1 h2 h3 => ?_⟩⟩
    · obtain ⟨h1, ho, h2, h3⟩ := w.mts a u e
      exact ⟨h1, ho, by rw [upd_ne (ne_of_none h2 hdx)]; exact h2, h3⟩
    · exact ⟨by rw [upd_ne (ne_of_none h1 hdx)]; exact h1, h2, h3⟩
  obtain ⟨w1, g1⟩ := w1
  have hx1 : upd H dx (.own x) x = none := by rw [upd_ne ne.symm]; exact hx
  obtain ⟨w2, g2, mx⟩ := w1.fresh (o := .ins C dx []) hx1 (RepM.ins (C := C) .nil)
  refine ⟨F, _, _, _, ex, w2, .cons .ref (rs.append (hdd F)), q x mx, ?_, ?_⟩
  · rintro d μ3 F3 H3 v ⟨rfl, q3⟩ g3 w3 r3
    cases r3
    refine ⟨rfl, ?_⟩
    obtain ⟨F4, d4, μ4, g4, w4, r4, q4⟩ := q3 K F3 H3 (.ref x) w3 .ref
    exact k d4 μ4 F4 H3 _ q4 (((g1.trans g2).trans g3).trans g4) w4 r4
  · exact (ZEw K ex E).up hz (g1.trans g2)
theorem jmake (M : Mk X.K C f) (F : FnOk X.prog X.w X.K X.mg X.base CX k f fd ps (lowSp X.K sp)) (hr : Room (k + 1) X.A) (hg : Gl X x) (hm : X.mg x = some (.ref C)) (hb : Binds X.K fd ps ds) (hd : Vals dvs ds) (hdd : ∀ F, Reps X.K F dvs dds) (hx : Passes CX X E) (hz : ∀ F H μ, Z.p F H μ → ZE X.K ex E F H μ)
    (ha : A2 X Z (e :: es) t) (hdb : (x == ("__debug__" : Str)) = false := by decide) (he : starEach (e :: es) X.env = (false, eval e X.env) :: starEach es X.env := by rfl) (hpl : (backTo pos (starEach es X.env)).any (·.1) = false := by rfl) :
    E2 X Z (.Call (.Name x p) (e :: es) [] pos) (jMake C sp dds ex t) := by
  refine pe_imp (pe_make M F hr hg hm hb hd hx ha hdb he hpl) fun σ H Q h => ?_
  obtain ⟨F, δ, μ, Q0, mm, q, k⟩ := h
  refine ⟨F, δ, μ, _, mm, q, ?_⟩
  intro as μ1 F1 H1 vs q1 g1 w1 r1
  exact low_make w1 r1 hdd (hz _ _ _ (Z.up mm.z g1)) q1 fun d μ' F' H' v q' g' w' r' => k d μ' F' H' v q' (g1.trans g') w' r'
theorem jmake0 (M : Mk X.K C f) (F : FnOk X.prog X.w X.K X.mg X.base CX k f fd ps (lowSp X.K sp)) (hr : Room (k + 1) X.A) (hg : Gl X x) (hm : X.mg x = some (.ref C)) (hb : Binds X.K fd ps ds) (hd : Vals dvs ds) (hdd : ∀ F, Reps X.K F dvs dds) (hx : Passes CX X E) (hz : ∀ F H μ, Z.p F H μ → ZE X.K ex E F H μ)
    (hdb : (x == ("__debug__" : Str)) = false := by decide) : E2 X Z (.Call (.Name x p) [] [] pos) (jMake C sp dds ex jNil) := by
  refine pe_imp (pe_make0 M F hr hg hm hb hd hx hdb) fun σ H Q h => ?_
  obtain ⟨F, δ, μ, Q0, mm, q, k⟩ := h
  exact low_make mm.wd .nil hdd (hz _ _ _ mm.z) q k
end

/-! ### a def's body -/
def startD (N : List Str) (ds : List D) : Sg := ds.map some ++ List.replicate (N.length - ds.length) none
theorem repE_start {K : PySem.W.Frag} {F : Hp} (N : List Str) : ∀ {vs : List V} {ds : List D}, Reps K F vs ds → RepE K F (start N vs) (startD N ds) := by
  intro vs ds r
  unfold L2.start startD
  rw [r.length]
  generalize N.length - ds.length = n
  induction r using Reps.rec (motive_1 := fun _ _ _ => True) (motive_3 := fun _ _ _ => True) (motive_4 := fun _ _ _ => True) with
  | nil =>
    show Paired _ (List.replicate n none) (List.replicate n none)
    induction n with
    | zero => exact .nil
    | succ n ih => exact .cons trivial ih
  | cons r _ _ ih => exact .cons r ih
  | _ => trivial
/-- what a body is to reach -/
def ends (Q : QE) : Ends2 := { nx := fun _ μ => Upd Q .non μ, rt := Upd Q }
section
variable {P : Program} {w : World} {K : PySem.W.Frag} {mg : Str → Option Value} {base : Heap}
theorem low_body {X : Cx} {Z : Zw} {K : PySem.W.Frag} {N : List Str} {t : TS2} {vs : List V} {H : Hp} {Q : VK} {F : Hp} {μ : Mu} {ds : List D} {Q0 : QE} (w : Wd K F H μ) (r : Reps K F vs ds) (z : Z.p F H μ) (h : t (ends Q0) (startD N ds) μ)
    (k : ∀ d μ' F' H' v, Q0 d μ' → Gr F H μ F' H' μ' → Wd K F' H' μ' → Rep K F' v d → Q v H') : lowS K Z t { nx := fun _ H' => Q .non H', rt := Q } (start N vs) H := by
  refine ⟨F, _, μ, _, ⟨w, repE_start N r, z⟩, h, ?_, ?_, ?_, ?_⟩
  · intro δ' μ' F' σ' H' q g m
    obtain ⟨F2, d2, μ2, g2, w2, r2, q2⟩ := q K F' H' .non m.wd .non
    exact k d2 μ2 F2 H' _ q2 (g.trans g2) w2 r2
  · intro d μ' F' H' v q g w' r'
    obtain ⟨F2, d2, μ2, g2, w2, r2, q2⟩ := q K F' H' v w' r'
    exact k d2 μ2 F2 H' _ q2 (g.trans g2) w2 r2
  · intro _ _ _ _ _ h; exact h.elim
  · intro _ _ _ _ _ h; exact h.elim
/-- THE RULE for a def that raises nothing -/
theorem fnok {x qual : Str} {params : Arguments} {body : List Stmt} {scope : Scope} {dvs : List V} {kws : List (Str × V)} {f : Addr} {fd : FuncData} {N ps : List Str} {k : Nat} {sp : Sp2} {t : TS2} (F : FunD K x qual params body scope dvs kws f fd) (S : FnScope N ps scope)
    (len : ∀ ds μ Q ex, sp ds μ Q ex → ds.length = ps.length)
    (hbody : ∀ (cdv : Value) (A : Around) (outer : List Env) (s : Shared) (H : Hp) (E : XK), Room k (A.deeper (envOfC qual scope s.heap.objs.size f cdv)) → B2 (cxOf CX0 P w K mg base N qual scope f cdv A outer s H E).nox Z0 body t)
    (hpure : ∀ ds μ Q ex, sp ds μ Q ex → t (ends Q) (startD N ds) μ) : FnOk P w K mg base CX0 (k + 1) f fd ps (lowSp K sp) := by
  refine F.ok S (fun vs H Q E h => ?_) (fun cdv A outer s H vs Q E hr h => ?_)
  · obtain ⟨F, μ, ds, Q0, ex, _, r, q, _⟩ := h
    rw [r.length]
    exact len _ _ _ _ q
  · obtain ⟨F1, μ, ds, Q0, ex, wd, r, q, kk, _⟩ := h
    exact ⟨_, (hbody cdv A outer s H E hr).nox, low_body (X := cxOf CX0 P w K mg base N qual scope f cdv A outer s H E) (Z := Z0) wd r trivial (hpure ds μ Q0 ex q) kk⟩
end

/-! ### for -/
def ItOk (K : PySem.W.Frag) (J : It) (F0 : Hp) (items : List D) (G : Mu → Prop) : Prop :=
  ∀ F H μ, Same F0 F → Wd K F H μ → G μ → (∀ (i : Nat) d, items[i]? = some d → J.go i H ∧ ∀ x H', J.yld i H x H' → ∃ F', Gr F H μ F' H' μ ∧ Wd K F' H' μ ∧ Rep K F' x d) ∧ ∀ i, items.length ≤ i → J.stop i H
abbrev TI2 := Sg → Mu → (List D → (Mu → Prop) → Mu → Prop) → Prop
def lowI (K : PySem.W.Frag) (Z : Zw) (ti : TI2) : TI := fun σ H R => ∃ F δ μ Q0, Mt K Z F σ H δ μ ∧ ti δ μ Q0 ∧ ∀ items G μ' F' H' J, Q0 items G μ' → Gr F H μ F' H' μ' → Wd K F' H' μ' → ItOk K J F' items G → R J H'
abbrev I2 (X : Cx) (Z : Zw) (tg iter : Expr) (ti : TI2) : Prop := PI X tg iter (lowI X.K Z ti)
theorem pi_imp {X : Cx} {tg iter : Expr} {t t' : TI} (h : PI X tg iter t) (i : ∀ σ H Q, t' σ H Q → t σ H Q) : PI X tg iter t' := ⟨fun pins s σ H Q I q => h.run pins s σ H Q I (i _ _ _ q)⟩
def jLoop (g : TG2) (tb : TS2) (G : Mu → Prop) (D : Ends2) : List J.D → Sg → Mu → Prop
  | [] => fun δ μ => G μ ∧ D.nx δ μ
  | x :: r => fun δ μ => G μ ∧ g x δ μ fun δ' μ' => tb { D with nx := jLoop g tb G D r, ct := jLoop g tb G D r, bk := D.nx } δ' μ'
def jFor (ti : TI2) (g : TG2) (tb : TS2) : TS2 := fun D δ μ => ti δ μ fun items G μ1 => jLoop g tb G D items δ μ1
theorem drop_at {α : Type} {l : List α} {i : Nat} (h : i < l.length) : ∃ x, l[i]? = some x ∧ l.drop i = x :: l.drop (i + 1) :=
  ⟨l[i], by simp [h], List.drop_eq_getElem_cons h⟩
section
variable {X : Cx} {Z : Zw}
theorem js_for {tg iter : Expr} {body : List Stmt} {pos : Pos} {ti : TI2} {g : TG2} {tb : TS2} (hp : PassesOwn (model X.prog X.w) X.A X.env X.xe) (hc : X.calm = true) (hi : I2 X Z tg iter ti) (hg : G2 X Z tg g) (hb : B2 X Z body tb)
    (hs : ∀ x, foldedSetIterable iter X.env x = pure x := by intro _; rfl) : S2 X Z (.For tg iter body [] pos) (jFor ti g tb) := by
  refine ps_imp (ps_for hp hc hi hg hb hs) ?_
  rintro D σ H ⟨F, δ, μ, D2, m, q, e⟩
  refine ⟨F, δ, μ, _, m, q, ?_⟩
  intro items G μ1 F1 H1 J q1 g1 w1 io
  have e1 := e.step g1
  refine ⟨fun i n σ H => n = items.length - i ∧ i ≤ items.length ∧ ∃ F δ μ, Gr F1 H1 μ1 F H μ ∧ Mt X.K Z F σ H δ μ ∧ jLoop g tb G D2 (items.drop i) δ μ, ⟨_, rfl, Nat.zero_le _, F1, δ, μ1, .refl, m.step g1 w1, q1⟩, ?_⟩
  rintro i n σ2 H2 ⟨rfl, hi, F2, δ2, μ2, g2, m2, q2⟩
  by_cases hlt : i < items.length
  · obtain ⟨x, hx, hd⟩ := drop_at hlt
    rw [hd] at q2
    obtain ⟨hG, q2⟩ := q2
    obtain ⟨go, yl⟩ := (io F2 H2 μ2 g2.ff m2.wd hG).1 i x hx
    refine .inr ⟨go, fun σ H => ∃ F δ μ, Gr F1 H1 μ1 F H μ ∧ Mt X.K Z F σ H δ μ ∧ jLoop g tb G D2 (items.drop (i + 1)) δ μ, fun σ' H' z => ⟨items.length - (i + 1), by omega, rfl, by omega, z⟩, ?_⟩
    intro xv H3 hy
    obtain ⟨F3, g3, w3, r3⟩ := yl xv H3 hy
    refine ⟨F3, δ2, μ2, x, _, m2.step g3 w3, r3, q2, ?_⟩
    intro δ4 μ4 F4 σ4 H4 q4 g4 m4
    have gg := (g2.trans g3).trans g4
    refine ⟨F4, δ4, μ4, _, m4, q4, ?_, (e1.step gg).rt, ?_, ?_⟩
    · intro δ5 μ5 F5 σ5 H5 q5 g5 m5
      exact ⟨F5, δ5, μ5, gg.trans g5, m5, q5⟩
    · exact (e1.step gg).nx
    · intro δ5 μ5 F5 σ5 H5 q5 g5 m5
      exact ⟨F5, δ5, μ5, gg.trans g5, m5, q5⟩
  · have ei : i = items.length := by omega
    subst ei
    rw [List.drop_length] at q2
    obtain ⟨hG, q2⟩ := q2
    exact .inl ⟨(io F2 H2 μ2 g2.ff m2.wd hG).2 _ (Nat.le_refl _), e1.nx _ _ _ _ _ q2 g2 m2⟩

/-! ### while -/
def jWhile (c : TT2) (tb : TS2) : TS2 := fun D δ μ => ∃ W : Nat → Sg → Mu → Prop, (∃ m, W m δ μ) ∧ ∀ m δ μ, W m δ μ → c δ μ fun b μ1 => if b = true then tb { D with nx := fun δ' μ' => ∃ m', m' < m ∧ W m' δ' μ', ct := fun δ' μ' => ∃ m', m' < m ∧ W m' δ' μ', bk := D.nx } δ μ1 else D.nx δ μ1
theorem js_while {c : Expr} {body : List Stmt} {pos : Pos} {tc : TT2} {tb : TS2} (hp : PassesOwn (model X.prog X.w) X.A X.env X.xe) (hc : T2 X Z c tc) (hb : B2 X Z body tb) : S2 X Z (.While c body [] pos) (jWhile tc tb) := by
  refine ps_imp (ps_while hp hc hb) ?_
  rintro D σ H ⟨F, δ, μ, D2, mm, ⟨W, ⟨m0, w0⟩, turn⟩, e⟩
  refine ⟨fun n σ' H' => ∃ F' δ' μ', Gr F H μ F' H' μ' ∧ Mt X.K Z F' σ' H' δ' μ' ∧ W n δ' μ', ⟨m0, F, δ, μ, .refl, mm, w0⟩, ?_⟩
  rintro n σ1 H1 ⟨F1, δ1, μ1, g1, m1, w1⟩
  refine ⟨F1, δ1, μ1, _, m1, turn n δ1 μ1 w1, ?_⟩
  rintro b μ2 F2 H2 q2 g2 w2
  have gg := g1.trans g2
  have m2 := m1.step g2 w2
  cases b with
  | true =>
    rw [if_pos rfl] at q2 ⊢
    refine ⟨fun σ' H' => ∃ m', m' < n ∧ ∃ F' δ' μ', Gr F H μ F' H' μ' ∧ Mt X.K Z F' σ' H' δ' μ' ∧ W m' δ' μ', fun σ' H' z => z, F2, δ1, μ2, _, m2, q2, ?_, (e.step gg).rt, (e.step gg).nx, ?_⟩
    · rintro δ5 μ5 F5 σ5 H5 ⟨m', hm, q5⟩ g5 m5
      exact ⟨m', hm, F5, δ5, μ5, gg.trans g5, m5, q5⟩
    · rintro δ5 μ5 F5 σ5 H5 ⟨m', hm, q5⟩ g5 m5
      exact ⟨m', hm, F5, δ5, μ5, gg.trans g5, m5, q5⟩
  | false =>
    rw [if_neg Bool.false_ne_true] at q2 ⊢
    exact e.nx _ _ _ _ _ q2 gg m2
end
end J

namespace J
open PySem PySem.Spec PyProof.Rows L2

section
variable {X : Cx}
/-! ### views -/
def LstAt (μ : Mu) (d : D) (xs : List D) : Prop := d = .lst xs ∨ ∃ a, d = .ref a ∧ μ a = some (.lst xs)
def SeqAt (μ : Mu) (d : D) (xs : List D) : Prop := LstAt μ d xs ∨ d = .rol xs
def DctAt (μ : Mu) (d : D) (xs : List (Key × D)) : Prop := d = .dct xs ∨ ∃ a, d = .ref a ∧ μ a = some (.dct xs)
theorem LstAt.f {μ : Mu} {xs : List D} : LstAt μ (.lst xs) xs := .inl rfl
theorem LstAt.m {μ : Mu} {a : Addr} {xs : List D} (h : μ a = some (.lst xs)) : LstAt μ (.ref a) xs := .inr ⟨a, rfl, h⟩
theorem SeqAt.f {μ : Mu} {xs : List D} : SeqAt μ (.lst xs) xs := .inl (.inl rfl)
theorem SeqAt.r {μ : Mu} {xs : List D} : SeqAt μ (.rol xs) xs := .inr rfl
theorem SeqAt.m {μ : Mu} {a : Addr} {xs : List D} (h : μ a = some (.lst xs)) : SeqAt μ (.ref a) xs := .inl (.inr ⟨a, rfl, h⟩)
theorem DctAt.f {μ : Mu} {xs : List (Key × D)} : DctAt μ (.dct xs) xs := .inl rfl
theorem DctAt.m {μ : Mu} {a : Addr} {xs : List (Key × D)} (h : μ a = some (.dct xs)) : DctAt μ (.ref a) xs := .inr ⟨a, rfl, h⟩
section
variable {K : PySem.W.Frag} {F H : Hp} {μ : Mu} {v : V} {d : D}
theorem lst_at {xs : List D} (w : Wd K F H μ) (r : Rep K F v d) (h : LstAt μ d xs) : ∃ a vs, v = .ref a ∧ H a = some (.lst vs) ∧ Reps K F vs xs := by
  rcases h with rfl | ⟨a, rfl, h⟩
  · cases r with
    | lst h rs => exact ⟨_, _, rfl, w.sub _ _ h, rs⟩
  · cases r
    obtain ⟨_, ho, h1, h2⟩ := w.mts a _ h
    cases h2 with
    | lst rs => exact ⟨a, _, rfl, h1, rs⟩
theorem seq_at {xs : List D} (w : Wd K F H μ) (r : Rep K F v d) (h : SeqAt μ d xs) : ∃ a vs, v = .ref a ∧ SqL K H a vs ∧ Reps K F vs xs := by
  rcases h with h | rfl
  · obtain ⟨a, vs, e, h1, rs⟩ := lst_at w r h
    exact ⟨a, vs, e, SqL.of h1, rs⟩
  · cases r with
    | rol h rs => exact ⟨_, _, rfl, w.sub.seq h, rs⟩
theorem tup_at {xs : List D} (w : Wd K F H μ) (r : Rep K F v (.tup xs)) : ∃ a vs, v = .ref a ∧ SqT K H a vs ∧ Reps K F vs xs := by
  cases r with
  | tup h rs => exact ⟨_, _, rfl, sqt_mono w.sub h, rs⟩
theorem dct_at {xs : List (Key × D)} (w : Wd K F H μ) (r : Rep K F v d) (h : DctAt μ d xs) : ∃ a vs, v = .ref a ∧ H a = some (.dK vs) ∧ RepK K F vs xs := by
  rcases h with rfl | ⟨a, rfl, h⟩
  · cases r with
    | dct h rs => exact ⟨_, _, rfl, w.sub _ _ h, rs⟩
  · cases r
    obtain ⟨_, ho, h1, h2⟩ := w.mts a _ h
    cases h2 with
    | dct rs => exact ⟨a, _, rfl, h1, rs⟩
theorem mlst_at {a : Addr} {xs : List D} (w : Wd K F H μ) (h : μ a = some (.lst xs)) : ∃ vs, H a = some (.lst vs) ∧ Reps K F vs xs := by
  obtain ⟨_, ho, h1, h2⟩ := w.mts a _ h
  cases h2 with
  | lst rs => exact ⟨_, h1, rs⟩
theorem mdct_at {a : Addr} {xs : List (Key × D)} (w : Wd K F H μ) (h : μ a = some (.dct xs)) : ∃ vs, H a = some (.dK vs) ∧ RepK K F vs xs := by
  obtain ⟨_, ho, h1, h2⟩ := w.mts a _ h
  cases h2 with
  | dct rs => exact ⟨_, h1, rs⟩
theorem atI_rep {vs : List V} {xs : List D} {i : Int} (rs : Reps K F vs xs) (h : atI xs i = some d) : ∃ v, atI vs i = some v ∧ Rep K F v d := by
  unfold atI at h ⊢
  rw [rs.length]
  cases e : ixN xs.length i with
  | none => rw [e] at h; cases h
  | some j =>
    rw [e] at h
    exact rs.get h
theorem tr {F1 H1 : Hp} {Q0 : QE} {Q : VK} {μ1 : Mu} (k : ∀ d' μ' F' H' v, Q0 d' μ' → Gr F H μ F' H' μ' → Wd K F' H' μ' → Rep K F' v d' → Q v H') (g : Gr F H μ F1 H1 μ1) :
    ∀ d' μ' F' H' v, Q0 d' μ' → Gr F1 H1 μ1 F' H' μ' → Wd K F' H' μ' → Rep K F' v d' → Q v H' := fun d' μ' F' H' v q g' w r => k d' μ' F' H' v q (g.trans g') w r
end

/-! ### arithmetic -/
def add2 : O2
  | .int i, .int j, μ, Q => Q (.int (i + j)) μ
  | .str x, .str y, μ, Q => x.length + y.length ≤ sizeLine ∧ Q (.str (x ++ y)) μ
  | .tup xs, .tup ys, μ, Q => xs.length + ys.length ≤ sizeLine ∧ Q (.tup (xs ++ ys)) μ
  | .int i, .bl b, μ, Q => Q (.int (i + b2i b)) μ
  | x, y, μ, Q => ∃ xs ys, LstAt μ x xs ∧ LstAt μ y ys ∧ xs.length + ys.length ≤ sizeLine ∧ NewL (xs ++ ys) μ Q
theorem add_lists {pins : List (Addr × Obj)} {s : Shared} {σ : Sv} {H : Hp} {x y : V} {v u : Value} {Q : VK} {F : Hp} {μ : Mu} {d e : D} {Q0 : QE} (I : Inv X pins σ H s) (rx : RelV x v) (ry : RelV y u) (w : Wd X.K F H μ) (r1 : Rep X.K F x d) (r2 : Rep X.K F y e)
    (q : ∃ xs ys, LstAt μ d xs ∧ LstAt μ e ys ∧ xs.length + ys.length ≤ sizeLine ∧ NewL (xs ++ ys) μ Q0) (k : ∀ d' μ' F' H' v, Q0 d' μ' → Gr F H μ F' H' μ' → Wd X.K F' H' μ' → Rep X.K F' v d' → Q v H') : wpAny (model X.prog X.w) X.A (binaryOp .Add v u) (EP X pins σ Q) X.xe s := by
  obtain ⟨xs, ys, hx, hy, hl, n⟩ := q
  obtain ⟨a, vs, rfl, ha, rs⟩ := lst_at w r1 hx
  obtain ⟨b, us, rfl, hb, rs2⟩ := lst_at w r2 hy
  exact op_cat pins s σ H _ _ v u Q I rx ry ⟨a, b, vs, us, rfl, rfl, ha, hb, by rw [rs.length, rs2.length]; exact hl, fun p hp => newL_ok w hp (rs.append rs2) n k⟩
theorem oadd : OpR X (binaryOp .Add) (lowO2 X.K add2) := by
  rintro pins s σ H x y v u Q I rx ry ⟨F, μ, d, e, Q0, w, r1, r2, q, k⟩
  cases d <;> cases e <;> first
    | exact add_lists I rx ry w r1 r2 q k
    | skip
  · cases r1; cases r2
    exact op_add_ib pins s σ H _ _ v u Q I rx ry ⟨_, _, rfl, rfl, k _ _ _ _ _ q .refl w .int⟩
  · cases r1; cases r2
    exact op_add pins s σ H _ _ v u Q I rx ry ⟨_, _, rfl, rfl, k _ _ _ _ _ q .refl w .int⟩
  · cases r1; cases r2
    exact op_add_str pins s σ H _ _ v u Q I rx ry ⟨_, _, rfl, rfl, q.1, k _ _ _ _ _ q.2 .refl w .str⟩
  · obtain ⟨a, vs, rfl, ha, rs⟩ := tup_at w r1
    obtain ⟨b, us, rfl, hb, rs2⟩ := tup_at w r2
    refine op_catA pins s σ H _ _ v u Q I rx ry ⟨a, b, vs, us, rfl, rfl, ha, hb, by rw [rs.length, rs2.length]; exact q.1, ?_⟩
    have hl := rs.length
    have hl2 := rs2.length
    refine ⟨fun e => ?_, fun _ e => ?_, fun _ _ p hp => ?_⟩
    · subst e
      cases rs
      exact k _ _ _ _ _ q.2 .refl w r2
    · subst e
      cases rs2
      have q2 := q.2
      rw [List.append_nil] at q2
      exact k _ _ _ _ _ q2 .refl w r1
    · exact newT_ok w hp (rs.append rs2) q.2 k
def sub2 : O2
  | .int i, .int j, μ, Q => Q (.int (i - j)) μ
  | _, _, _, _ => False
theorem osub : OpR X (binaryOp .Sub) (lowO2 X.K sub2) := by
  rintro pins s σ H x y v u Q I rx ry ⟨F, μ, d, e, Q0, w, r1, r2, q, k⟩
  cases d <;> cases e <;> first | exact False.elim q | skip
  cases r1; cases r2
  exact op_sub pins s σ H _ _ v u Q I rx ry ⟨_, _, rfl, rfl, k _ _ _ _ _ q .refl w .int⟩
def mul2 : O2
  | .int i, .int j, μ, Q => (CMul i j ∨ CMulW i j) ∧ Q (.int (i * j)) μ
  | x, .int n, μ, Q => ∃ xs, LstAt μ x xs ∧ -(2 ^ 63) ≤ n ∧ n < 2 ^ 63 ∧ xs.length * n.toNat ≤ sizeLine ∧ NewL (List.replicate n.toNat xs).flatten μ Q
  | _, _, _, _ => False
theorem Reps.rep {K : PySem.W.Frag} {F : Hp} {vs : List V} {ds : List D} (h : Reps K F vs ds) : ∀ k : Nat, Reps K F (List.replicate k vs).flatten (List.replicate k ds).flatten
  | 0 => .nil
  | k + 1 => by
    rw [List.replicate_succ, List.replicate_succ, List.flatten_cons, List.flatten_cons]
    exact h.append (Reps.rep h k)
theorem mul_lists {pins : List (Addr × Obj)} {s : Shared} {σ : Sv} {H : Hp} {x y : V} {v u : Value} {Q : VK} {F : Hp} {μ : Mu} {d : D} {n : Int} {Q0 : QE} (I : Inv X pins σ H s) (rx : RelV x v) (ry : RelV y u) (w : Wd X.K F H μ) (r1 : Rep X.K F x d) (r2 : Rep X.K F y (.int n))
    (q : ∃ xs, LstAt μ d xs ∧ -(2 ^ 63) ≤ n ∧ n < 2 ^ 63 ∧ xs.length * n.toNat ≤ sizeLine ∧ NewL (List.replicate n.toNat xs).flatten μ Q0) (k : ∀ d' μ' F' H' v, Q0 d' μ' → Gr F H μ F' H' μ' → Wd X.K F' H' μ' → Rep X.K F' v d' → Q v H') : wpAny (model X.prog X.w) X.A (binaryOp .Mult v u) (EP X pins σ Q) X.xe s := by
  obtain ⟨xs, hx, h1, h2, hl, nl⟩ := q
  obtain ⟨a, vs, rfl, ha, rs⟩ := lst_at w r1 hx
  cases r2
  exact op_rep pins s σ H _ _ v u Q I rx ry ⟨a, n, vs, rfl, rfl, ha, h1, h2, by rw [rs.length]; exact hl, fun p hp => newL_ok w hp (rs.rep _) nl k⟩
theorem omul : OpR X (binaryOp .Mult) (lowO2 X.K mul2) := by
  rintro pins s σ H x y v u Q I rx ry ⟨F, μ, d, e, Q0, w, r1, r2, q, k⟩
  cases e <;> first | (cases d <;> exact False.elim q) | skip
  cases d <;> first | exact mul_lists I rx ry w r1 r2 q k | skip
  cases r1; cases r2
  rcases q with ⟨h | h, q⟩
  · exact op_mul pins s σ H _ _ v u Q I rx ry ⟨_, _, rfl, rfl, h, k _ _ _ _ _ q .refl w .int⟩
  · exact op_mulW pins s σ H _ _ v u Q I rx ry ⟨_, _, rfl, rfl, h, k _ _ _ _ _ q .refl w .int⟩
/-- two ints, under a word -/
def int2 (C : Int → Int → Prop) (g : Int → Int → D) : O2
  | .int i, .int j, μ, Q => C i j ∧ Q (g i j) μ
  | _, _, _, _ => False
theorem oint {f : Value → Value → Sem Value} {C : Int → Int → Prop} {g : Int → Int → Int} (h : OpR X f (rI C fun i j => .int (g i j))) : OpR X f (lowO2 X.K (int2 C fun i j => .int (g i j))) := by
  rintro pins s σ H x y v u Q I rx ry ⟨F, μ, d, e, Q0, w, r1, r2, q, k⟩
  cases d <;> cases e <;> first | exact False.elim q | skip
  cases r1; cases r2
  exact h pins s σ H _ _ v u Q I rx ry ⟨_, _, rfl, rfl, q.1, k _ _ _ _ _ q.2 .refl w .int⟩
abbrev fdiv2 : O2 := int2 CDivW fun i j => .int (i / j)
abbrev mod2 : O2 := int2 (fun _ j => 0 < j) fun i j => .int (i % j)
abbrev pow2 : O2 := int2 CPow fun i j => .int (i ^ j.toNat)
abbrev shr2 : O2 := int2 (fun _ j => 0 ≤ j) fun i j => .int (i / 2 ^ j.toNat)
theorem ofdiv : OpR X (binaryOp .FloorDiv) (lowO2 X.K fdiv2) := oint op_fdivW
theorem omod : OpR X (binaryOp .Mod) (lowO2 X.K mod2) := oint op_mod
theorem opow : OpR X (binaryOp .Pow) (lowO2 X.K pow2) := oint op_pow
theorem oshr : OpR X (binaryOp .RShift) (lowO2 X.K shr2) := oint op_shr
def neg1 : O1
  | .int i, μ, Q => Q (.int (-i)) μ
  | _, _, _ => False
theorem oneg : UnR X (unaryOp .USub) (lowO1 X.K neg1) := by
  rintro pins s σ H x v Q I rx ⟨F, μ, d, Q0, w, r1, q, k⟩
  cases d <;> first | exact False.elim q | skip
  cases r1
  exact un_neg pins s σ H _ v Q I rx ⟨_, rfl, k _ _ _ _ _ q .refl w .int⟩

/-! ### comparisons -/
def cmp2 (ci : Int → Int → Bool) (cs : Str → Str → Bool) : O2
  | .int i, .int j, μ, Q => Q (.bl (ci i j)) μ
  | .str x, .str y, μ, Q => Q (.bl (cs x y)) μ
  | _, _, _, _ => False
theorem ocmp {f : Value → Value → Sem Value} {ci : Int → Int → Bool} {cs : Str → Str → Bool} (h : OpR X f (rI0 fun i j => .bl (ci i j))) (h2 : OpR X f (fun x y H Q => ∃ i j, x = .str i ∧ y = .str j ∧ Q (.bl (cs i j)) H)) : OpR X f (lowO2 X.K (cmp2 ci cs)) := by
  rintro pins s σ H x y v u Q I rx ry ⟨F, μ, d, e, Q0, w, r1, r2, q, k⟩
  cases d <;> cases e <;> first | exact False.elim q | skip
  · cases r1; cases r2
    exact h pins s σ H _ _ v u Q I rx ry ⟨_, _, rfl, rfl, k _ _ _ _ _ q .refl w .bl⟩
  · cases r1; cases r2
    exact h2 pins s σ H _ _ v u Q I rx ry ⟨_, _, rfl, rfl, k _ _ _ _ _ q .refl w .bl⟩
abbrev slt (x y : Str) : Bool := decide (x.cps.toList < y.cps.toList)
abbrev lt2 : O2 := cmp2 (fun i j => decide (i < j)) slt
abbrev le2 : O2 := cmp2 (fun i j => decide (i ≤ j)) fun x y => !slt y x
abbrev gt2 : O2 := cmp2 (fun i j => decide (j < i)) fun x y => slt y x
abbrev ge2 : O2 := cmp2 (fun i j => decide (j ≤ i)) fun x y => !slt x y
theorem olt : OpR X (compareOp .Lt) (lowO2 X.K lt2) := ocmp op_lt op_lt_str
theorem ole : OpR X (compareOp .LtE) (lowO2 X.K le2) := ocmp op_le op_le_str
theorem ogt : OpR X (compareOp .Gt) (lowO2 X.K gt2) := ocmp op_gt op_gt_str
theorem oge : OpR X (compareOp .GtE) (lowO2 X.K ge2) := ocmp op_ge op_ge_str

/-! ### data that is compared deeply -/
mutual
def D.py : D → PyData
  | .non => .none
  | .bl b => .bool b
  | .int i => .int i
  | .str x => .str x
  | .tup xs => .tuple (D.pys xs)
  | .lst xs => .list (D.pys xs)
  | .rol xs => .list (D.pys xs)
  | .ty _ => .none
  | .ref _ => .none
  | .dct _ => .none
  | .ins _ _ => .none
def D.pys : List D → List PyData
  | [] => []
  | x :: xs => x.py :: D.pys xs
end
mutual
def D.pl : D → Bool
  | .non => true
  | .bl _ => true
  | .int _ => true
  | .str _ => true
  | .tup xs => D.pls xs
  | .lst xs => D.pls xs
  | .rol xs => D.pls xs
  | .ty _ => false
  | .ref _ => false
  | .dct _ => false
  | .ins _ _ => false
def D.pls : List D → Bool
  | [] => true
  | x :: xs => x.pl && D.pls xs
end
section
variable {K : PySem.W.Frag} {F H : Hp}
mutual
theorem Rep.dp (e : Same F H) {v : V} {d : D} (h : Rep K F v d) (p : d.pl = true) : Dp K H v d.py := by
  cases h with
  | non => exact .non
  | bl => exact .bl _
  | int => exact .int _
  | str => exact .str _
  | ty => simp [D.pl] at p
  | ref => simp [D.pl] at p
  | tup h r => rw [D.py]; exact .tup (sqt_mono e h) (Reps.dp e r (by simpa [D.pl] using p))
  | lst h r => rw [D.py]; exact .lst (SqL.of (e _ _ h)) (Reps.dp e r (by simpa [D.pl] using p))
  | rol h r => rw [D.py]; exact .lst (e.seq h) (Reps.dp e r (by simpa [D.pl] using p))
  | dct h r => simp [D.pl] at p
  | ins h r => simp [D.pl] at p
theorem Reps.dp (e : Same F H) {v : List V} {d : List D} (h : Reps K F v d) (p : D.pls d = true) : DpAll K H v (D.pys d) := by
  cases h with
  | nil => rw [D.pys]; exact .nil
  | cons h r =>
    rw [D.pls, Bool.and_eq_true] at p
    rw [D.pys]
    exact .cons (Rep.dp e h p.1) (Reps.dp e r p.2)
end
end
/-- a value as data: itself, or what stands in a list that may change -/
def Vw (μ : Mu) (x d : D) : Prop := x = d ∨ ∃ a xs, x = .ref a ∧ μ a = some (.lst xs) ∧ d = .lst xs
theorem Vw.f {μ : Mu} {x : D} : Vw μ x x := .inl rfl
theorem Vw.m {μ : Mu} {a : Addr} {xs : List D} (h : μ a = some (.lst xs)) : Vw μ (.ref a) (.lst xs) := .inr ⟨a, xs, rfl, h, rfl⟩
theorem vw_dp {K : PySem.W.Frag} {F H : Hp} {μ : Mu} {v : V} {x d : D} (w : Wd K F H μ) (r : Rep K F v x) (h : Vw μ x d) (p : d.pl = true) : Dp K H v d.py := by
  rcases h with rfl | ⟨a, xs, rfl, h, rfl⟩
  · exact r.dp w.sub p
  · cases r
    obtain ⟨vs, h1, rs⟩ := mlst_at w h
    rw [D.py]
    exact .lst (SqL.of h1) (rs.dp w.sub (by simpa [D.pl] using p))
def eqD (neg : Bool) (x y : D) (μ : Mu) (Q : QE) : Prop := ∃ dx dy, Vw μ x dx ∧ Vw μ y dy ∧ dx.pl = true ∧ dy.pl = true ∧ SeqAt.shaped dx.py = true ∧ SeqAt.shaped dy.py = true ∧ Q (.bl (neg ^^ PyData.eqv dx.py dy.py)) μ
def eq2 : O2
  | .non, .non, μ, Q => Q (.bl true) μ
  | .non, .int _, μ, Q => Q (.bl false) μ
  | .non, .bl _, μ, Q => Q (.bl false) μ
  | .non, .str _, μ, Q => Q (.bl false) μ
  | .int _, .non, μ, Q => Q (.bl false) μ
  | .int i, .int j, μ, Q => Q (.bl (decide (i = j))) μ
  | .int _, .str _, μ, Q => Q (.bl false) μ
  | .bl _, .non, μ, Q => Q (.bl false) μ
  | .bl i, .bl j, μ, Q => Q (.bl (decide (i = j))) μ
  | .bl _, .str _, μ, Q => Q (.bl false) μ
  | .str _, .non, μ, Q => Q (.bl false) μ
  | .str _, .int _, μ, Q => Q (.bl false) μ
  | .str _, .bl _, μ, Q => Q (.bl false) μ
  | .str i, .str j, μ, Q => Q (.bl (decide (i = j))) μ
  | x, y, μ, Q => eqD false x y μ Q
def ne2 : O2
  | .non, .non, μ, Q => Q (.bl false) μ
  | .non, .int _, μ, Q => Q (.bl true) μ
  | .non, .bl _, μ, Q => Q (.bl true) μ
  | .non, .str _, μ, Q => Q (.bl true) μ
  | .int _, .non, μ, Q => Q (.bl true) μ
  | .int i, .int j, μ, Q => Q (.bl (!decide (i = j))) μ
  | .int _, .str _, μ, Q => Q (.bl true) μ
  | .bl _, .non, μ, Q => Q (.bl true) μ
  | .bl i, .bl j, μ, Q => Q (.bl (!decide (i = j))) μ
  | .bl _, .str _, μ, Q => Q (.bl true) μ
  | .str _, .non, μ, Q => Q (.bl true) μ
  | .str _, .int _, μ, Q => Q (.bl true) μ
  | .str _, .bl _, μ, Q => Q (.bl true) μ
  | .str i, .str j, μ, Q => Q (.bl (!decide (i = j))) μ
  | x, y, μ, Q => eqD true x y μ Q
theorem eqD_ok (hu : X.A.units + 64 < cLine) {pins : List (Addr × Obj)} {s : Shared} {σ : Sv} {H : Hp} {x y : V} {v u : Value} {Q : VK} {F : Hp} {μ : Mu} {d e : D} {Q0 : QE} (I : Inv X pins σ H s) (rx : RelV x v) (ry : RelV y u) (w : Wd X.K F H μ) (r1 : Rep X.K F x d) (r2 : Rep X.K F y e)
    (q : eqD false d e μ Q0) (k : ∀ d' μ' F' H' v, Q0 d' μ' → Gr F H μ F' H' μ' → Wd X.K F' H' μ' → Rep X.K F' v d' → Q v H') : wpAny (model X.prog X.w) X.A (compareOp .Eq v u) (EP X pins σ Q) X.xe s := by
  obtain ⟨dx, dy, h1, h2, p1, p2, s1, s2, q⟩ := q
  rw [Bool.false_xor] at q
  exact op_eqD hu pins s σ H _ _ v u Q I rx ry ⟨_, _, vw_dp w r1 h1 p1, vw_dp w r2 h2 p2, s1, s2, k _ _ _ _ _ q .refl w .bl⟩
theorem neD_ok (hu : X.A.units + 64 < cLine) {pins : List (Addr × Obj)} {s : Shared} {σ : Sv} {H : Hp} {x y : V} {v u : Value} {Q : VK} {F : Hp} {μ : Mu} {d e : D} {Q0 : QE} (I : Inv X pins σ H s) (rx : RelV x v) (ry : RelV y u) (w : Wd X.K F H μ) (r1 : Rep X.K F x d) (r2 : Rep X.K F y e)
    (q : eqD true d e μ Q0) (k : ∀ d' μ' F' H' v, Q0 d' μ' → Gr F H μ F' H' μ' → Wd X.K F' H' μ' → Rep X.K F' v d' → Q v H') : wpAny (model X.prog X.w) X.A (compareOp .NotEq v u) (EP X pins σ Q) X.xe s := by
  obtain ⟨dx, dy, h1, h2, p1, p2, s1, s2, q⟩ := q
  rw [Bool.true_xor] at q
  exact op_neD hu pins s σ H _ _ v u Q I rx ry ⟨_, _, vw_dp w r1 h1 p1, vw_dp w r2 h2 p2, s1, s2, k _ _ _ _ _ q .refl w .bl⟩
theorem oeq (hu : X.A.units + 64 < cLine) : OpR X (compareOp .Eq) (lowO2 X.K eq2) := by
  rintro pins s σ H x y v u Q I rx ry ⟨F, μ, d, e, Q0, w, r1, r2, q, k⟩
  cases d <;> cases e <;> first
    | exact eqD_ok hu I rx ry w r1 r2 q k
    | (cases r1; cases r2; exact op_eq pins s σ H _ _ v u Q I rx ry ⟨rfl, k _ _ _ _ _ (by simpa [eq2] using q) .refl w .bl⟩)
theorem one_ (hu : X.A.units + 64 < cLine) : OpR X (compareOp .NotEq) (lowO2 X.K ne2) := by
  rintro pins s σ H x y v u Q I rx ry ⟨F, μ, d, e, Q0, w, r1, r2, q, k⟩
  cases d <;> cases e <;> first
    | exact neD_ok hu I rx ry w r1 r2 q k
    | (cases r1; cases r2; exact op_ne pins s σ H _ _ v u Q I rx ry ⟨rfl, k _ _ _ _ _ (by simpa [ne2] using q) .refl w .bl⟩)

/-! ### is -/
def is2 (neg : Bool) : O2
  | .bl i, .bl j, μ, Q => Q (.bl (neg ^^ decide (i = j))) μ
  | .non, .non, μ, Q => Q (.bl (neg ^^ true)) μ
  | _, .non, μ, Q => Q (.bl (neg ^^ false)) μ
  | _, _, _, _ => False
theorem Rep.non_iff {K : PySem.W.Frag} {F : Hp} {v : V} {d : D} (r : Rep K F v d) : v = .non ↔ d = .non := by
  cases r <;> simp
theorem ois : OpR X (compareOp .Is) (lowO2 X.K (is2 false)) := by
  rintro pins s σ H x y v u Q I rx ry ⟨F, μ, d, e, Q0, w, r1, r2, q, k⟩
  cases e <;> first | (cases d <;> exact False.elim q) | skip
  · cases r2
    have hn := r1.non_iff
    refine op_isN pins s σ H _ _ v u Q I rx ry ⟨rfl, ?_⟩
    cases d <;> first
      | (rw [decide_eq_true (hn.mpr rfl)]; exact k _ _ _ _ _ q .refl w .bl)
      | (rw [decide_eq_false (fun z => by have := hn.mp z; cases this)]; exact k _ _ _ _ _ q .refl w .bl)
  · cases d <;> first | exact False.elim q | skip
    cases r1; cases r2
    refine op_isBl pins s σ H _ _ v u Q I rx ry ⟨_, _, rfl, rfl, k _ _ _ _ _ ?_ .refl w .bl⟩
    have q' : Q0 (.bl (false ^^ decide (_ = _))) μ := q
    rw [Bool.false_xor] at q'
    exact q'
theorem oisnot : OpR X (compareOp .IsNot) (lowO2 X.K (is2 true)) := by
  rintro pins s σ H x y v u Q I rx ry ⟨F, μ, d, e, Q0, w, r1, r2, q, k⟩
  cases e <;> first | (cases d <;> exact False.elim q) | skip
  · cases r2
    have hn := r1.non_iff
    refine op_notN pins s σ H _ _ v u Q I rx ry ⟨rfl, ?_⟩
    cases d <;> first
      | (rw [decide_eq_true (hn.mpr rfl)]; exact k _ _ _ _ _ q .refl w .bl)
      | (rw [decide_eq_false (fun z => by have := hn.mp z; cases this)]; exact k _ _ _ _ _ q .refl w .bl)
  · cases d <;> first | exact False.elim q | skip
    cases r1; cases r2
    refine op_notBl pins s σ H _ _ v u Q I rx ry ⟨_, _, rfl, rfl, k _ _ _ _ _ ?_ .refl w .bl⟩
    have q' : Q0 (.bl (true ^^ decide (_ = _))) μ := q
    rw [Bool.true_xor] at q'
    exact q'

/-! ### in -/
def D.fl : D → Bool
  | .non => true
  | .bl _ => true
  | .int _ => true
  | .str _ => true
  | _ => false
def eqF : D → D → Bool
  | .non, .non => true
  | .bl a, .bl b => a == b
  | .bl a, .int b => (if a then 1 else 0) == b
  | .int a, .bl b => a == (if b then 1 else 0)
  | .int a, .int b => a == b
  | .str a, .str b => a == b
  | _, _ => false
def inF (x : D) (xs : List D) : Bool := xs.any fun y => eqF y x
theorem Rep.fl {K : PySem.W.Frag} {F : Hp} {v : V} {d : D} (r : Rep K F v d) (h : d.fl = true) : flatV v = true := by
  cases r <;> first | rfl | (simp [D.fl] at h)
theorem Reps.fl {K : PySem.W.Frag} {F : Hp} : ∀ {vs : List V} {ds : List D}, Reps K F vs ds → ds.all D.fl = true → vs.all flatV = true
  | _, _, .nil, _ => rfl
  | _, _, .cons r t, h => by
    rw [List.all_cons, Bool.and_eq_true] at h ⊢
    exact ⟨r.fl h.1, Reps.fl t h.2⟩
theorem Rep.eqF {K : PySem.W.Frag} {F : Hp} {v u : V} {d e : D} (r : Rep K F v d) (r2 : Rep K F u e) (h : d.fl = true) (h2 : e.fl = true) : eqV v u = J.eqF d e := by
  cases r <;> cases r2 <;> first | rfl | (simp [D.fl] at h) | (simp [D.fl] at h2)
theorem Reps.inF {K : PySem.W.Frag} {F : Hp} {x : V} {d : D} (r : Rep K F x d) (h : d.fl = true) : ∀ {vs : List V} {ds : List D}, Reps K F vs ds → ds.all D.fl = true → inV x vs = J.inF d ds
  | _, _, .nil, _ => rfl
  | _, _, .cons q t, hh => by
    rw [List.all_cons, Bool.and_eq_true] at hh
    have ih := Reps.inF r h t hh.2
    unfold inV J.inF at ih ⊢
    rw [List.any_cons, List.any_cons, ih, q.eqF r hh.1 h]
def keyD : D → Option Key
  | .int i => some (.inl i)
  | .str x => some (.inr x)
  | _ => none
theorem keyD_rep {K : PySem.W.Frag} {F : Hp} {v : V} {d : D} {k : Key} (r : Rep K F v d) (h : keyD d = some k) : v = kV k := by
  cases r <;> first | (simp [keyD] at h; done) | (simp [keyD] at h; subst h; rfl)
def valD (kvs : List (Key × D)) (k : Key) : Option D := (kvs.find? fun kv => decide (kv.1 = k)).map (·.2)
def putKD (kvs : List (Key × D)) (k : Key) (v : D) : List (Key × D) :=
  if (kvs.any fun kv => decide (kv.1 = k)) = true then kvs.map fun kv => if kv.1 = k then (kv.1, v) else kv else kvs ++ [(k, v)]
def dropKD (kvs : List (Key × D)) (k : Key) : List (Key × D) := kvs.filter fun kv => decide (kv.1 ≠ k)
section
variable {K : PySem.W.Frag} {F : Hp}
theorem valD_nil {k : Key} : valD [] k = none := rfl
theorem valD_pos {p : Key × D} {r : List (Key × D)} {k : Key} (e : p.1 = k) : valD (p :: r) k = some p.2 := by simp [valD, List.find?_cons, e]
theorem valD_neg {p : Key × D} {r : List (Key × D)} {k : Key} (e : ¬ p.1 = k) : valD (p :: r) k = valD r k := by simp [valD, List.find?_cons, e]
theorem RepK.val (k : Key) : ∀ {kvs : List (Key × V)} {ds : List (Key × D)}, RepK K F kvs ds → (∀ d, valD ds k = some d → ∃ v, valV kvs k = some v ∧ Rep K F v d) ∧ (valD ds k = none → valV kvs k = none)
  | _, _, .nil => ⟨fun _ h => (by simp [valD] at h), fun _ => rfl⟩
  | _, _, .cons (k := k') r t => by
    have ih := RepK.val k t
    by_cases h : k' = k
    · rw [valD_pos (p := (k', _)) h, valV_pos (p := (k', _)) h]
      exact ⟨fun d e => ⟨_, rfl, by cases e; exact r⟩, fun e => by cases e⟩
    · rw [valD_neg (p := (k', _)) h, valV_neg (p := (k', _)) h]
      exact ih
theorem RepK.isSome {kvs : List (Key × V)} {ds : List (Key × D)} (r : RepK K F kvs ds) (k : Key) : (valV kvs k).isSome = (valD ds k).isSome := by
  have h := r.val k
  cases e : valD ds k with
  | none =>
    rw [h.2 e]
    rfl
  | some d =>
    obtain ⟨v, e1, _⟩ := h.1 d e
    rw [e1]
    rfl
theorem RepK.any (k : Key) : ∀ {kvs : List (Key × V)} {ds : List (Key × D)}, RepK K F kvs ds → (kvs.any fun kv => decide (kv.1 = k)) = ds.any fun kv => decide (kv.1 = k)
  | _, _, .nil => rfl
  | _, _, .cons r t => by rw [List.any_cons, List.any_cons, RepK.any k t]
theorem RepK.repl (k : Key) {v : V} {d : D} (r : Rep K F v d) : ∀ {kvs : List (Key × V)} {ds : List (Key × D)}, RepK K F kvs ds → RepK K F (kvs.map fun kv => if kv.1 = k then (kv.1, v) else kv) (ds.map fun kv => if kv.1 = k then (kv.1, d) else kv)
  | _, _, .nil => .nil
  | _, _, .cons (k := k') q t => by
    rw [List.map_cons, List.map_cons]
    by_cases h : k' = k
    · simp only [h, if_true]
      exact .cons r (RepK.repl k r t)
    · simp only [h, if_false]
      exact .cons q (RepK.repl k r t)
theorem RepK.append : ∀ {kvs kws : List (Key × V)} {ds es : List (Key × D)}, RepK K F kvs ds → RepK K F kws es → RepK K F (kvs ++ kws) (ds ++ es)
  | _, _, _, _, .nil, s => s
  | _, _, _, _, .cons r t, s => .cons r (RepK.append t s)
theorem RepK.put {k : Key} {v : V} {d : D} (r : Rep K F v d) {kvs : List (Key × V)} {ds : List (Key × D)} (h : RepK K F kvs ds) : RepK K F (putK kvs k v) (putKD ds k d) := by
  unfold putK putKD
  rw [h.any k]
  split
  · exact h.repl k r
  · exact h.append (.cons r .nil)
theorem RepK.dropK {k : Key} : ∀ {kvs : List (Key × V)} {ds : List (Key × D)}, RepK K F kvs ds → RepK K F (L2.dropK kvs k) (dropKD ds k)
  | _, _, .nil => .nil
  | _, _, .cons (k := k') q t => by
    unfold L2.dropK dropKD
    rw [List.filter_cons, List.filter_cons]
    by_cases h : k' ≠ k
    · rw [if_pos (decide_eq_true h), if_pos (decide_eq_true h)]
      exact .cons q (RepK.dropK t)
    · rw [if_neg (by simpa using h), if_neg (by simpa using h)]
      exact RepK.dropK t
theorem RepK.length : ∀ {kvs : List (Key × V)} {ds : List (Key × D)}, RepK K F kvs ds → kvs.length = ds.length
  | _, _, .nil => rfl
  | _, _, .cons _ t => congrArg (· + 1) (RepK.length t)
end
def keyV : Key → D
  | .inl i => .int i
  | .inr x => .str x
theorem keyV_rep {K : PySem.W.Frag} {F : Hp} (k : Key) : Rep K F (kV k) (keyV k) := by
  cases k with
  | inl i => exact .int
  | inr x => exact .str
theorem RepK.keys {K : PySem.W.Frag} {F : Hp} : ∀ {kvs : List (Key × V)} {ds : List (Key × D)}, RepK K F kvs ds → Reps K F (kvs.map fun kv => kV kv.1) (ds.map fun kv => keyV kv.1)
  | _, _, .nil => .nil
  | _, _, .cons (k := k) _ t => .cons (keyV_rep k) (RepK.keys t)

def in2 (neg : Bool) (x y : D) (μ : Mu) (Q : QE) : Prop :=
  (∃ xs, (SeqAt μ y xs ∨ y = .tup xs) ∧ x.fl = true ∧ xs.all D.fl = true ∧ Q (.bl (neg ^^ inF x xs)) μ) ∨
  (∃ i c j, x = .str ⟨#[i]⟩ ∧ y = .str j ∧ c = decide (i ∈ j.cps.toList) ∧ Q (.bl (neg ^^ c)) μ) ∨
  (∃ kvs k, DctAt μ y kvs ∧ keyD x = some k ∧ Q (.bl (neg ^^ (valD kvs k).isSome)) μ) ∨
  (∃ i j, x = .str i ∧ y = .str j ∧ Q (.bl (neg ^^ !(Builtin.Str.occurrences j i 0 j.length 1).isEmpty)) μ)
theorem oin (hu : X.A.units + 1 < cLine) : OpR X (compareOp .In) (lowO2 X.K (in2 false)) := by
  rintro pins s σ H x y v u Q I rx ry ⟨F, μ, d, e, Q0, w, r1, r2, q, k⟩
  rcases q with ⟨xs, hs, h1, h2, q⟩ | ⟨i, c, j, rfl, rfl, rfl, q⟩ | ⟨kvs, kk, h1, h2, q⟩ | ⟨i, j, rfl, rfl, q⟩
  · rw [Bool.false_xor] at q
    rcases hs with hs | rfl
    · obtain ⟨a, vs, rfl, ha, rs⟩ := seq_at w r2 hs
      refine op_in_seq pins s σ H _ _ v u Q I rx ry ⟨a, vs, rfl, .inl ha, r1.fl h1, rs.fl h2, ?_⟩
      rw [rs.inF r1 h1 h2]
      exact k _ _ _ _ _ q .refl w .bl
    · obtain ⟨a, vs, rfl, ha, rs⟩ := tup_at w r2
      refine op_in_seq pins s σ H _ _ v u Q I rx ry ⟨a, vs, rfl, .inr ha, r1.fl h1, rs.fl h2, ?_⟩
      rw [rs.inF r1 h1 h2]
      exact k _ _ _ _ _ q .refl w .bl
  · rw [Bool.false_xor] at q
    cases r1; cases r2
    exact op_in_sign pins s σ H _ _ v u Q I rx ry ⟨i, j, rfl, rfl, k _ _ _ _ _ q .refl w .bl⟩
  · rw [Bool.false_xor] at q
    obtain ⟨a, vs, rfl, ha, rs⟩ := dct_at w r2 h1
    cases (show u = Value.ref a from ry)
    have e1 := keyD_rep r1 h2
    subst e1
    refine d_in hu I (DGet.k ha) rx fun s' I' => ⟨.bl _, H, I', rfl, ?_⟩
    rw [rs.isSome]
    exact k _ _ _ _ _ q .refl w .bl
  · rw [Bool.false_xor] at q
    cases r1; cases r2
    exact op_in_str pins s σ H _ _ v u Q I rx ry ⟨i, j, rfl, rfl, k _ _ _ _ _ q .refl w .bl⟩
theorem onotin (hu : X.A.units + 1 < cLine) : OpR X (compareOp .NotIn) (lowO2 X.K (in2 true)) := by
  rintro pins s σ H x y v u Q I rx ry ⟨F, μ, d, e, Q0, w, r1, r2, q, k⟩
  rcases q with ⟨xs, hs, h1, h2, q⟩ | ⟨i, c, j, rfl, rfl, rfl, q⟩ | ⟨kvs, kk, h1, h2, q⟩ | ⟨i, j, rfl, rfl, q⟩
  · rw [Bool.true_xor] at q
    rcases hs with hs | rfl
    · obtain ⟨a, vs, rfl, ha, rs⟩ := seq_at w r2 hs
      refine op_notIn_seq pins s σ H _ _ v u Q I rx ry ⟨a, vs, rfl, .inl ha, r1.fl h1, rs.fl h2, ?_⟩
      rw [rs.inF r1 h1 h2]
      exact k _ _ _ _ _ q .refl w .bl
    · obtain ⟨a, vs, rfl, ha, rs⟩ := tup_at w r2
      refine op_notIn_seq pins s σ H _ _ v u Q I rx ry ⟨a, vs, rfl, .inr ha, r1.fl h1, rs.fl h2, ?_⟩
      rw [rs.inF r1 h1 h2]
      exact k _ _ _ _ _ q .refl w .bl
  · rw [Bool.true_xor] at q
    cases r1; cases r2
    exact op_notIn_sign pins s σ H _ _ v u Q I rx ry ⟨i, j, rfl, rfl, k _ _ _ _ _ q .refl w .bl⟩
  · rw [Bool.true_xor] at q
    obtain ⟨a, vs, rfl, ha, rs⟩ := dct_at w r2 h1
    cases (show u = Value.ref a from ry)
    have e1 := keyD_rep r1 h2
    subst e1
    refine d_notIn hu I (DGet.k ha) rx fun s' I' => ⟨.bl _, H, I', rfl, ?_⟩
    rw [rs.isSome]
    exact k _ _ _ _ _ q .refl w .bl
  · rw [Bool.true_xor] at q
    cases r1; cases r2
    exact op_notin_str pins s σ H _ _ v u Q I rx ry ⟨i, j, rfl, rfl, k _ _ _ _ _ q .refl w .bl⟩

/-! ### o[i] -/
def ix2 (x y : D) (μ : Mu) (Q : QE) : Prop :=
  (∃ xs i d, (SeqAt μ x xs ∨ x = .tup xs) ∧ y = .int i ∧ atI xs i = some d ∧ Q d μ) ∨
  (∃ z i c, x = .str z ∧ y = .int i ∧ z.length ≤ sizeLine ∧ atI z.cps.toList i = some c ∧ Q (.str ⟨#[c]⟩) μ) ∨
  (∃ kvs k d, DctAt μ x kvs ∧ keyD y = some k ∧ valD kvs k = some d ∧ Q d μ)
theorem ix_dict (hu : X.A.units + 1 < cLine) : IxR X (fun x y H Q => ∃ a v, x = .ref a ∧ DGet H a y (some v) ∧ Q v H) := by
  rintro value slice pins s σ H x y v u Q I rx ry ⟨a, d, rfl, g, q⟩ hs
  cases (show v = Value.ref a from rx)
  have hT := dict_typeIs I g
  unfold subscriptTail
  refine wpAny_bind ?_
  rw [getitemInPython_of_ne hT.not_modules]
  refine wpAny_bind (wpAny_specialOf hT PySem.F.slot_dict_getitem.lookup ?_)
  have h2 : wpAny (model X.prog X.w) X.A (getItem (.ref a) u) (EP X pins σ Q) X.xe s := d_getItem hu I g ry fun w' s3 I3 rw' => ⟨d, H, I3, rw', q⟩
  have fin : wpAny (model X.prog X.w) X.A (subscripted slice false (.ref a) u) (fun r s3 => wpAny (model X.prog X.w) X.A (letTemporaryGo value (.ref a) r >>= fun _ => pure r) (EP X pins σ Q) X.xe s3) X.xe s := by
    rw [hs]
    exact wpAny_operating (wpAny_mono h2 (fun r s3 h3 => wpAny_bind (wpAny_letTemporaryGo (wpAny_pure h3))) fun _ _ x => x)
  first
    | exact wpAny_pure (wpAny_bind fin)
    | exact wpAny_bind (wpAny_pure (wpAny_bind fin))
    | exact wpAny_bind fin
theorem oix (hu : X.A.units + 1 < cLine) : IxR X (lowO2 X.K ix2) := by
  rintro value slice pins s σ H x y v u Q I rx ry ⟨F, μ, d, e, Q0, w, r1, r2, q, k⟩ hs
  rcases q with ⟨xs, i, z, hx, rfl, ha, q⟩ | ⟨z, i, c, rfl, rfl, hz, ha, q⟩ | ⟨kvs, kk, z, h1, h2, h3, q⟩
  · cases r2
    rcases hx with hx | rfl
    · obtain ⟨a, vs, rfl, hl, rs⟩ := seq_at w r1 hx
      obtain ⟨zv, hzv, rz⟩ := atI_rep rs ha
      exact ix_list value slice pins s σ H _ _ v u Q I rx ry ⟨a, vs, i, zv, rfl, rfl, hl, hzv, k _ _ _ _ _ q .refl w rz⟩ hs
    · obtain ⟨a, vs, rfl, hl, rs⟩ := tup_at w r1
      obtain ⟨zv, hzv, rz⟩ := atI_rep rs ha
      exact ix_tup value slice pins s σ H _ _ v u Q I rx ry ⟨a, vs, i, zv, rfl, rfl, hl, hzv, k _ _ _ _ _ q .refl w rz⟩ hs
  · cases r1; cases r2
    exact ix_str value slice pins s σ H _ _ v u Q I rx ry ⟨z, i, c, rfl, rfl, hz, ha, k _ _ _ _ _ q .refl w .str⟩ hs
  · obtain ⟨a, vs, rfl, hl, rs⟩ := dct_at w r1 h1
    have e1 := keyD_rep r2 h2
    subst e1
    obtain ⟨zv, hzv, rz⟩ := (rs.val kk).1 z h3
    exact ix_dict hu value slice pins s σ H _ _ v u Q I rx ry ⟨a, zv, rfl, by rw [← hzv]; exact DGet.k hl, k _ _ _ _ _ q .refl w rz⟩ hs
end
end J

/-! ### list(reversed(list)), at the library's level -/
namespace J
open PySem PySem.Spec PyProof.Rows RT
section
variable {prog : Program} {w : World} {A : Around} {E : Value → Shared → Prop} {s : Shared}
theorem ext_rev {R : Result → Shared → Prop} {it l : Addr} {items : Array Value} (hh : A.handled = none) (hit : s.heap.IsRevIter it l ((items.size : Int) - 1)) (hl : s.heap.IsList l items) (hne : l ≠ it) (hn : items.size ≤ sizeLine) (S : Addr) (res : Value) (c₀ : Nat)
    (hS : s.heap.get? S = some { cls := .type "list", data := .seq #[] c₀ }) (hSl : S ≠ l) (hSi : S ≠ it)
    (hR : ∀ h' tk acc' c', (∀ b o, b ≠ S → b ≠ it → s.heap.get? b = some o → h'.get? b = some o) → h'.get? S = some { cls := .type "list", dict := none, data := .seq acc' c', slots := #[] } →
      ItemsOf (fun i v => items[items.size - 1 - i]? = some v) acc' items.size → R (.ok (.ret res)) { s with heap := h', toks := tk }) :
    wpAny (model prog w) A.in1 (Builtin.List.listExtendWith (.ref S) (.ref it) res)
      (fun fin s' => match fin with | .done f => R (.ok f) s' | .again c' => c'.quiet = true ∧ codeAny (model prog w) A c' R s') (fun e s' => R (.error e) s') s := by
  have W := (Walks.listRev (prog := prog) (w := w) (A := A.in1) hh it l hne items).toS
  have hSf : S ∉ [it, l] := by simp only [List.mem_cons, List.not_mem_nil, or_false, not_or]; exact ⟨hSi, hSl⟩
  have hT : s.TypeIs (.ref it) "list_reverseiterator" := Heap.IsRevIter.typeIs hit
  have h1 : Builtin.List.listSameRef (.ref S) (.ref it) = false := by simp [Builtin.List.listSameRef, hSi]
  unfold Builtin.List.listExtendWith
  refine wpAny_bind (wpAny_typeOf hT ?_)
  rw [if_neg (by rw [h1]; decide)]
  refine wpAny_bind (wpAny_pyIter_revIter hit ?_)
  refine wpAny_bind (wpAny_holding ?_)
  unfold Builtin.List.listLengthHint
  refine wpAny_bind (wpAny_specialOf hT nolen_lri ?_)
  show wpAny _ A.in1 (specialOf (Value.ref it) (Str.ofString "__length_hint__") >>= _) _ _ _
  refine wpAny_bind (wpAny_specialOf hT hint_lri ?_)
  generalize hid : ("list_reverseiterator.__length_hint__" : String) = id0
  wp_delta
  rw [show splitId id0 = some ("list_reverseiterator", "__length_hint__") from by subst hid; decide +kernel]
  subst hid
  refine wpAny_bind (wpAny_isInstance (b := true) hT (by rw [isSubtype_type]; kernel_rfl) ?_)
  refine wpAny_pure ?_
  rw [if_neg (by decide)]
  have e0 : ((items.size : Nat) : Int) - 1 - ((0 : Nat) : Int) = (items.size : Int) - 1 := by omega
  refine wpAny_pure ⟨plainId_quiet F.plain_extend_loop _, codeAny_extend_loopS W hn S hSf res items.size 0 _ _ c₀ rfl (Nat.zero_le _) ⟨Nat.zero_le _, by rw [e0]; exact hit, hl⟩ hS (ItemsOf.nil _) fun s' acc' c' hm hS' hacc => ?_⟩
  rw [Moved.eq_with hm]
  refine hR s'.heap s'.toks acc' c' (fun b o hb hb2 e => hm.heap b o (fun hmem => ?_) e) hS' hacc
  rcases List.mem_cons.mp hmem with e' | hmem
  · exact hb e'
  · exact hb2 (List.mem_singleton.mp hmem)
theorem init_rev {R : Result → Shared → Prop} {it l : Addr} {items : Array Value} (hh : A.handled = none) (hit : s.heap.IsRevIter it l ((items.size : Int) - 1)) (hl : s.heap.IsList l items) (hne : l ≠ it) (hn : items.size ≤ sizeLine) (S : Addr)
    (hS : s.heap.get? S = some { cls := .type "list", data := .seq #[] }) (hSl : S ≠ l) (hSi : S ≠ it)
    (hR : ∀ h' tk acc' c', (∀ b o, b ≠ S → b ≠ it → s.heap.get? b = some o → h'.get? b = some o) → h'.get? S = some { cls := .type "list", dict := none, data := .seq acc' c', slots := #[] } →
      ItemsOf (fun i v => items[items.size - 1 - i]? = some v) acc' items.size → R (.ok (.ret .none)) { s with heap := h', toks := tk }) :
    wpAny (model prog w) A.in1 (Builtin.«list.__init__» ⟨[.ref S, .ref it], []⟩)
      (fun fin s' => match fin with | .done f => R (.ok f) s' | .again c' => c'.quiet = true ∧ codeAny (model prog w) A c' R s') (fun e s' => R (.error e) s') s := by
  show wpAny _ _ (do let old ← Builtin.List.listItems (.ref S); Builtin.List.listUpdate (.ref S) (fun _ => #[]); letGo old.toList.reverse; Builtin.List.listExtendWith (.ref S) (.ref it) .none) _ _ s
  refine wpAny_bind ?_
  unfold Builtin.List.listItems
  refine wpAny_bind (wpAny_seqItems hS rfl (wpAny_pure ?_))
  show wpAny _ _ (updateSeq S (fun _ => #[]) >>= fun _ => letGo (#[] : Array Value).toList.reverse >>= fun _ => Builtin.List.listExtendWith (.ref S) (.ref it) .none) _ _ s
  refine wpAny_bind (wpAny_updateSeq hS rfl ?_)
  have hS₂ := Heap.get?_update_self (Obj.mapSeq (fun _ => (#[] : Array Value))) hS rfl
  have oth : ∀ b o, b ≠ S → s.heap.get? b = some o → (s.heap.update S (Obj.mapSeq (fun _ => (#[] : Array Value)))).get? b = some o :=
    fun b o hb e => (Heap.get?_update_other _ _ (Ne.symm hb)).trans e
  refine wpAny_bind (wpAny_letGo ?_)
  obtain ⟨ol, hol, c1, n1, d1⟩ := hl
  refine ext_rev (items := items) hh (hit.at fun o e => oth it o (Ne.symm hSi) e) ⟨ol, oth l ol (Ne.symm hSl) hol, c1, n1, d1⟩ hne hn S .none _ hS₂ hSl hSi fun h' tk acc' c' hk hS' hacc => ?_
  exact hR h' tk acc' c' (fun b o hb hb2 e => hk b o hb hb2 (oth b o hb e)) hS' hacc
theorem call_list_rev {it l : Addr} {items : Array Value} {Q : Value → Shared → Prop} (hh : A.handled = none) (hit : s.heap.IsRevIter it l ((items.size : Int) - 1)) (hl : s.heap.IsList l items) (hne : l ≠ it) (hn : items.size ≤ sizeLine)
    (hQ : ∀ h' tk acc' c', (∀ b o, b ≠ it → s.heap.get? b = some o → h'.get? b = some o) →
      h'.get? s.heap.objs.size = some { cls := .type "list", dict := none, data := .seq acc' c', slots := #[] } → ItemsOf (fun i v => items[items.size - 1 - i]? = some v) acc' items.size → Q (.ref s.heap.objs.size) { s with heap := h', toks := tk }) :
    wpAny (model prog w) A (call (.type "list") [.ref it]) Q E s := by
  refine callType_codes (Q₁ := fun obj s₁ => obj = .ref s.heap.objs.size ∧ s₁ = { s with heap := s.heap.push { cls := .type "list", data := .seq #[] } }) F.called_list (F.typeCall_list_1 _) F.entry_list_init
    (code_list_new _ ⟨rfl, rfl⟩) fun obj s₁ h₁ => ?_
  obtain ⟨rfl, rfl⟩ := h₁
  have hS : (s.heap.push { cls := .type "list", data := .seq #[] }).get? s.heap.objs.size = some { cls := .type "list", data := .seq #[] } := Heap.get?_push_size _ rfl
  obtain ⟨oi, hoi, _⟩ := id hit
  obtain ⟨ol, hol, _⟩ := id hl
  refine ⟨⟨_, hS, rfl⟩, F.args_list_init_2 _ _, init_rev (A := A.in1) hh (hit.at fun o e => Heap.get?_push_of_some _ e) (hl.push _) hne hn _ hS (Nat.ne_of_gt (Heap.lt_size hol)) (Nat.ne_of_gt (Heap.lt_size hoi)) fun h' tk acc' c' hk hS' hacc => ?_⟩
  exact ⟨rfl, hQ h' tk acc' c' (fun b o hb e => hk b o (Nat.ne_of_lt (Heap.lt_size e)) hb (Heap.get?_push_of_some _ e)) hS' hacc⟩
end
end J

namespace J
open PySem PySem.Spec PyProof.Rows L2
section
variable {X : Cx} {Z : Zw}
def tLstRev (K : PySem.W.Frag) (te : TE) : TE := fun σ H Q => te σ H fun v H1 => ∃ (a : Addr) (xs : List V), v = .ref a ∧ SqL K H1 a xs ∧ ∀ q, H1 q = none → Q (.ref q) (upd H1 q (.lst xs.reverse))
theorem pe_lstRev {e : Expr} {te : TE} {p p2 pos pos2 : Pos} (hc : X.calm = true) (hg : Gl X "list") (hm : X.mg "list" = none) (hg2 : Gl X "reversed") (hm2 : X.mg "reversed" = none) (he : PE X e te)
    (hs : starEach [e] X.env = (false, eval e X.env) :: starEach [] X.env := by rfl)
    (hs2 : starEach [.Call (.Name "reversed" p2) [e] [] pos2] X.env = (false, eval (.Call (.Name "reversed" p2) [e] [] pos2) X.env) :: starEach [] X.env := by rfl) :
    PE X (.Call (.Name "list" p) [.Call (.Name "reversed" p2) [e] [] pos2] [] pos) (tLstRev X.K te) := by
  refine ⟨fun pins s σ H Q I h => ?_⟩
  refine Call_ (ld_blt I hg hm boot_list (PyProof.Rows.callWith_type1 (args_cons (Call_ (ld_blt I hg2 hm2 PyProof.Rows.boot_reversed (PyProof.Rows.callWith_type1 (args_cons (thn (he.run pins s σ H _ I h) fun u s1 ⟨v, H1, I1, r1, q1⟩ => args_nil ?_) hs) hs rfl))) hs2) hs2 rfl))
  obtain ⟨a, xs, ev, hq, q⟩ := q1
  subst ev
  obtain rfl : u = Value.ref a := r1
  obtain ⟨its, rv, p', hz⟩ := I1.list hq
  refine call_reversed_list p'.isList (args_nil ?_)
  have k0 : ∀ b o, s1.heap.get? b = some o → (s1.heap.push (revObj a ((its.toArray.size : Int) - 1))).get? b = some o := fun b o e => Heap.get?_push_of_some _ e
  have I2 : Inv X pins σ H1 { s1 with heap := s1.heap.push (revObj a ((its.toArray.size : Int) - 1)) } := I1.kept (t' := s1.toks) k0
  have hl := p'.isList
  obtain ⟨ol, hol, _⟩ := id hl
  have hne : a ≠ s1.heap.objs.size := Nat.ne_of_lt (Heap.lt_size hol)
  have hn : its.toArray.size ≤ sizeLine := by rw [List.size_toArray, ← rv.length]; exact hz
  refine call_list_rev (s := { s1 with heap := s1.heap.push (revObj a ((its.toArray.size : Int) - 1)) }) (I1.ok.hd hc) ⟨_, Heap.get?_push_size _ rfl, rfl, rfl⟩ (hl.push _) hne hn fun h' tk acc c' hk hS hi => ?_
  have hf2 : H1 (s1.heap.push (revObj a ((its.toArray.size : Int) - 1))).objs.size = none := I2.hok.fresh (Nat.le_refl _)
  have hsz : s1.heap.objs.size ≠ (s1.heap.push (revObj a ((its.toArray.size : Int) - 1))).objs.size := Nat.ne_of_lt (Heap.lt_size (Heap.get?_push_size _ rfl))
  have hfp : ∀ b ∈ [s1.heap.objs.size], FpOk X pins H1 b := fun b hb => by
    have eb : b = s1.heap.objs.size := by simpa using hb
    subst eb
    exact I1.fpOk (H' := H1) (b := s1.heap.objs.size) (Nat.le_refl _) (I1.hok.fresh (Nat.le_refl _))
  refine ⟨.ref _, upd H1 (s1.heap.push (revObj a ((its.toArray.size : Int) - 1))).objs.size (.lst xs.reverse), I2.turnedNew (t' := tk) (h' := h') (ch := [s1.heap.objs.size]) (ob := .lst xs.reverse) (fun b o hb e => hk b o (fun z => hb (by simp [z])) e) hfp (Nat.le_refl _) ?_, rfl, q _ hf2⟩
  exact ⟨by rw [List.length_reverse]; exact hz, acc.toList, c', RT.vals_rev rv hi, by rw [Array.toArray_toList]; exact hS⟩
end
end J

namespace J
open PySem PySem.Spec PyProof.Rows L2
section
variable {X : Cx} {Z : Zw}
theorem jlistRev {e : Expr} {te : TE2} {p p2 pos pos2 : Pos} (hc : X.calm = true) (hg : Gl X "list") (hm : X.mg "list" = none) (hg2 : Gl X "reversed") (hm2 : X.mg "reversed" = none) (he : E2 X Z e te)
    (hs : starEach [e] X.env = (false, eval e X.env) :: starEach [] X.env := by rfl)
    (hs2 : starEach [.Call (.Name "reversed" p2) [e] [] pos2] X.env = (false, eval (.Call (.Name "reversed" p2) [e] [] pos2) X.env) :: starEach [] X.env := by rfl) :
    E2 X Z (.Call (.Name "list" p) [.Call (.Name "reversed" p2) [e] [] pos2] [] pos) (jUn (fun x μ Q => ∃ xs, SeqAt μ x xs ∧ NewL xs.reverse μ Q) te) := by
  refine pe_imp (pe_lstRev hc hg hm hg2 hm2 he hs hs2) ?_
  rintro σ H Q ⟨F, δ, μ, Q0, m, q, k⟩
  refine ⟨F, δ, μ, _, m, q, ?_⟩
  rintro x μ1 F1 H1 v ⟨xs, hx, n⟩ g1 w1 r1
  obtain ⟨a, vs, rfl, ha, rs⟩ := seq_at w1 r1 hx
  exact ⟨a, vs, rfl, ha, fun q hq => newL_ok w1 hq rs.reverse n (tr k g1)⟩

/-! ### calls of built-ins -/
theorem jcallF {x : Str} {id : String} {r : OA} {e : Expr} {es : List Expr} {t : TA2} {p pos : Pos} (hc : CallR X (.builtin id) (lowOA X.K r)) (hg : Gl X x) (hm : X.mg x = none) (hv : bootBuiltins x = some (.builtin id)) (ha : A2 X Z (e :: es) t)
    (hn : x ≠ "__name__" := by decide) (hdb : (x == ("__debug__" : Str)) = false := by decide) (he : starEach (e :: es) X.env = (false, eval e X.env) :: starEach es X.env := by rfl) (hpl : (backTo pos (starEach es X.env)).any (·.1) = false := by rfl) :
    E2 X Z (.Call (.Name x p) (e :: es) [] pos) (jCB r t) := pe_imp (pe_callB hc hg hm hv ha hn hdb he hpl) fun _ _ _ q => low_cb q
theorem jcallT {x : Str} {T : String} {r : OA} {e : Expr} {es : List Expr} {t : TA2} {p pos : Pos} (hc : CallR X (.type T) (lowOA X.K r)) (hg : Gl X x) (hm : X.mg x = none) (hv : bootBuiltins x = some (.type T)) (ha : A2 X Z (e :: es) t)
    (hn : x ≠ "__name__" := by decide) (hdb : (x == ("__debug__" : Str)) = false := by decide) (he : starEach (e :: es) X.env = (false, eval e X.env) :: starEach es X.env := by rfl) (hpl : (backTo pos (starEach es X.env)).any (·.1) = false := by rfl) :
    E2 X Z (.Call (.Name x p) (e :: es) [] pos) (jCB r t) := pe_imp (pe_callTy hc hg hm hv ha hn hdb he hpl) fun _ _ _ q => low_cb q

def len1 : OA
  | [.str z], μ, Q => z.length ≤ sizeLine ∧ Q (.int z.length) μ
  | [.tup xs], μ, Q => Q (.int xs.length) μ
  | [.lst xs], μ, Q => Q (.int xs.length) μ
  | [.rol xs], μ, Q => Q (.int xs.length) μ
  | [.dct xs], μ, Q => Q (.int xs.length) μ
  | [.ref a], μ, Q => (∃ xs, μ a = some (.lst xs) ∧ Q (.int xs.length) μ) ∨ ∃ xs, μ a = some (.dct xs) ∧ Q (.int xs.length) μ
  | _, _, _ => False
theorem Reps.one {K : PySem.W.Frag} {F : Hp} {vs : List V} {d : D} (r : Reps K F vs [d]) : ∃ v, vs = [v] ∧ Rep K F v d := by
  cases r with
  | cons r t => cases t; exact ⟨_, rfl, r⟩
theorem Reps.two {K : PySem.W.Frag} {F : Hp} {vs : List V} {d e : D} (r : Reps K F vs [d, e]) : ∃ v u, vs = [v, u] ∧ Rep K F v d ∧ Rep K F u e := by
  cases r with
  | cons r t =>
    cases t with
    | cons r2 t => cases t; exact ⟨_, _, rfl, r, r2⟩
theorem len_seq {pins : List (Addr × Obj)} {s : Shared} {σ : Sv} {H : Hp} {a : Addr} {vs : List V} {us : List Value} {Q : VK} (I : Inv X pins σ H s) (r : Vals [.ref a] us) (h : SqL X.K H a vs ∨ SqT X.K H a vs) (q : Q (.int vs.length) H) :
    wpAny (model X.prog X.w) X.A (call (.builtin "len") us) (EP X pins σ Q) X.xe s := call_len_seq pins s σ H _ us Q I r ⟨a, vs, rfl, h, q⟩
theorem call_lenD2 {pins : List (Addr × Obj)} {s : Shared} {σ : Sv} {H : Hp} {a : Addr} {kvs : List (Key × V)} {us : List Value} {Q : VK} (I : Inv X pins σ H s) (r : Vals [.ref a] us) (h : H a = some (.dK kvs)) (q : Q (.int kvs.length) H) :
    wpAny (model X.prog X.w) X.A (call (.builtin "len") us) (EP X pins σ Q) X.xe s := by
  rw [Vals.ref1 r]
  exact d_len I (.inl h) fun t s' I' => ⟨.int _, H, I', ⟨t, rfl⟩, q⟩
theorem clen : CallR X (.builtin "len") (lowOA X.K len1) := by
  rintro pins s σ H xs us Q I r ⟨F, μ, ds, Q0, w, rs, q, k⟩
  unfold len1 at q
  split at q <;> first | exact False.elim q | skip
  · obtain ⟨v, rfl, rv⟩ := rs.one
    cases rv
    exact call_len_str pins s σ H _ us Q I r ⟨_, rfl, q.1, k _ _ _ _ _ q.2 .refl w .int⟩
  · obtain ⟨v, rfl, rv⟩ := rs.one
    obtain ⟨a, vs, rfl, ha, r2⟩ := tup_at w rv
    exact len_seq I r (.inr ha) (by rw [r2.length]; exact k _ _ _ _ _ q .refl w .int)
  · obtain ⟨v, rfl, rv⟩ := rs.one
    obtain ⟨a, vs, rfl, ha, r2⟩ := seq_at w rv SeqAt.f
    exact len_seq I r (.inl ha) (by rw [r2.length]; exact k _ _ _ _ _ q .refl w .int)
  · obtain ⟨v, rfl, rv⟩ := rs.one
    obtain ⟨a, vs, rfl, ha, r2⟩ := seq_at w rv SeqAt.r
    exact len_seq I r (.inl ha) (by rw [r2.length]; exact k _ _ _ _ _ q .refl w .int)
  · obtain ⟨v, rfl, rv⟩ := rs.one
    obtain ⟨a, vs, rfl, ha, r2⟩ := dct_at w rv DctAt.f
    exact call_lenD2 I r ha (by rw [r2.length]; exact k _ _ _ _ _ q .refl w .int)
  · obtain ⟨v, rfl, rv⟩ := rs.one
    rcases q with ⟨xs, h, q⟩ | ⟨xs, h, q⟩
    · obtain ⟨a, vs, rfl, ha, r2⟩ := seq_at w rv (SeqAt.m h)
      exact len_seq I r (.inl ha) (by rw [r2.length]; exact k _ _ _ _ _ q .refl w .int)
    · obtain ⟨a, vs, rfl, ha, r2⟩ := dct_at w rv (DctAt.m h)
      exact call_lenD2 I r ha (by rw [r2.length]; exact k _ _ _ _ _ q .refl w .int)
def int1 : OA
  | [.int i], μ, Q => Q (.int i) μ
  | [.bl b], μ, Q => Q (.int (if b then 1 else 0)) μ
  | _, _, _ => False
theorem cint : CallR X (.type "int") (lowOA X.K int1) := by
  rintro pins s σ H xs us Q I r ⟨F, μ, ds, Q0, w, rs, q, k⟩
  unfold int1 at q
  split at q <;> first | exact False.elim q | skip
  · obtain ⟨v, rfl, rv⟩ := rs.one
    cases rv
    exact call_int1 pins s σ H _ us Q I r (.inl ⟨_, rfl, k _ _ _ _ _ q .refl w .int⟩)
  · obtain ⟨v, rfl, rv⟩ := rs.one
    cases rv
    exact call_int1 pins s σ H _ us Q I r (.inr ⟨_, rfl, k _ _ _ _ _ q .refl w .int⟩)
def list1 : OA
  | [.tup xs], μ, Q => NewL xs μ Q
  | [.lst xs], μ, Q => NewL xs μ Q
  | [.rol xs], μ, Q => NewL xs μ Q
  | [.dct xs], μ, Q => NewL (xs.map fun kv => keyV kv.1) μ Q
  | [.ref a], μ, Q => (∃ xs, μ a = some (.lst xs) ∧ NewL xs μ Q) ∨ ∃ xs, μ a = some (.dct xs) ∧ NewL (xs.map fun kv => keyV kv.1) μ Q
  | _, _, _ => False
theorem clist (hc : X.calm = true) : CallR X (.type "list") (lowOA X.K list1) := by
  rintro pins s σ H xs us Q I r ⟨F, μ, ds, Q0, w, rs, q, k⟩
  have seq : ∀ {d : D} {xs : List D} {v : V}, Rep X.K F v d → SeqAt μ d xs → Vals [v] us → NewL xs μ Q0 → wpAny (model X.prog X.w) X.A (call (.type "list") us) (EP X pins σ Q) X.xe s := by
    intro d xs v rv h r n
    obtain ⟨a, vs, rfl, ha, r2⟩ := seq_at w rv h
    exact call_list_of pins s σ H _ us Q I r ⟨a, vs, rfl, .inl ha, fun l hl => newL_ok w hl r2 n k⟩
  have dic : ∀ {d : D} {xs : List (Key × D)} {v : V}, Rep X.K F v d → DctAt μ d xs → Vals [v] us → NewL (xs.map fun kv => keyV kv.1) μ Q0 → wpAny (model X.prog X.w) X.A (call (.type "list") us) (EP X pins σ Q) X.xe s := by
    intro d xs v rv h r n
    obtain ⟨a, vs, rfl, ha, r2⟩ := dct_at w rv h
    exact call_listD hc pins s σ H _ us Q I r ⟨a, vs, rfl, .inl ha, fun l hl => newL_ok w hl r2.keys n k⟩
  unfold list1 at q
  split at q <;> first | exact False.elim q | skip
  · obtain ⟨v, rfl, rv⟩ := rs.one
    obtain ⟨a, vs, rfl, ha, r2⟩ := tup_at w rv
    exact call_list_of pins s σ H _ us Q I r ⟨a, vs, rfl, .inr ha, fun l hl => newL_ok w hl r2 q k⟩
  · obtain ⟨v, rfl, rv⟩ := rs.one
    exact seq rv SeqAt.f r q
  · obtain ⟨v, rfl, rv⟩ := rs.one
    exact seq rv SeqAt.r r q
  · obtain ⟨v, rfl, rv⟩ := rs.one
    exact dic rv DctAt.f r q
  · obtain ⟨v, rfl, rv⟩ := rs.one
    rcases q with ⟨xs, h, q⟩ | ⟨xs, h, q⟩
    · exact seq rv (SeqAt.m h) r q
    · exact dic rv (DctAt.m h) r q
def tuple1 : OA
  | [.tup xs], μ, Q => Q (.tup xs) μ
  | [.lst xs], μ, Q => Q (.tup xs) μ
  | [.rol xs], μ, Q => Q (.tup xs) μ
  | [.ref a], μ, Q => ∃ xs, μ a = some (.lst xs) ∧ Q (.tup xs) μ
  | _, _, _ => False
theorem ctuple : CallR X (.type "tuple") (lowOA X.K tuple1) := by
  rintro pins s σ H xs us Q I r ⟨F, μ, ds, Q0, w, rs, q, k⟩
  have seq : ∀ {d : D} {xs : List D} {v : V}, Rep X.K F v d → SeqAt μ d xs → Vals [v] us → Q0 (.tup xs) μ → wpAny (model X.prog X.w) X.A (call (.type "tuple") us) (EP X pins σ Q) X.xe s := by
    intro d xs v rv h r n
    obtain ⟨a, vs, rfl, ha, r2⟩ := seq_at w rv h
    exact call_tuple_of pins s σ H _ us Q I r ⟨a, vs, rfl, .inl ⟨ha, fun l hl => newT_ok w hl r2 n k⟩⟩
  unfold tuple1 at q
  split at q <;> first | exact False.elim q | skip
  · obtain ⟨v, rfl, rv⟩ := rs.one
    obtain ⟨a, vs, rfl, ha, r2⟩ := tup_at w rv
    exact call_tuple_of pins s σ H _ us Q I r ⟨a, vs, rfl, .inr ⟨ha, k _ _ _ _ _ q .refl w rv⟩⟩
  · obtain ⟨v, rfl, rv⟩ := rs.one
    exact seq rv SeqAt.f r q
  · obtain ⟨v, rfl, rv⟩ := rs.one
    exact seq rv SeqAt.r r q
  · obtain ⟨v, rfl, rv⟩ := rs.one
    obtain ⟨xs, h, q⟩ := q
    exact seq rv (SeqAt.m h) r q
def abs1 : OA
  | [.int i], μ, Q => Q (.int (if i < 0 then -i else i)) μ
  | _, _, _ => False
theorem cabs : CallR X (.builtin "abs") (lowOA X.K abs1) := by
  rintro pins s σ H xs us Q I r ⟨F, μ, ds, Q0, w, rs, q, k⟩
  unfold abs1 at q
  split at q <;> first | exact False.elim q | skip
  obtain ⟨v, rfl, rv⟩ := rs.one
  cases rv
  exact call_abs pins s σ H _ us Q I r ⟨_, rfl, k _ _ _ _ _ q .refl w .int⟩
/-- items that are ints -/
def IntsOf (xs : List D) (ns : List Int) : Prop := xs = ns.map D.int
def max1 : OA
  | [.int i, .int j], μ, Q => Q (.int (if j > i then j else i)) μ
  | [x], μ, Q => ∃ ns : List Int, SeqAt μ x (ns.map D.int) ∧ 0 < ns.length ∧ ∀ m, m ∈ ns → (∀ y, y ∈ ns → y ≤ m) → Q (.int m) μ
  | _, _, _ => False
def min1 : OA
  | [.int i, .int j], μ, Q => Q (.int (if j < i then j else i)) μ
  | [x], μ, Q => ∃ ns : List Int, SeqAt μ x (ns.map D.int) ∧ 0 < ns.length ∧ ∀ m, m ∈ ns → (∀ y, y ∈ ns → m ≤ y) → Q (.int m) μ
  | _, _, _ => False
theorem cmax (hc : X.calm = true) : CallR X (.builtin "max") (lowOA X.K max1) := by
  rintro pins s σ H xs us Q I r ⟨F, μ, ds, Q0, w, rs, q, k⟩
  unfold max1 at q
  split at q <;> first | exact False.elim q | skip
  · obtain ⟨v, u, rfl, rv, ru⟩ := rs.two
    cases rv; cases ru
    exact call_max2 hc pins s σ H _ us Q I r ⟨_, _, rfl, k _ _ _ _ _ q .refl w .int⟩
  · obtain ⟨v, rfl, rv⟩ := rs.one
    obtain ⟨ns, h, hl, q⟩ := q
    obtain ⟨a, vs, rfl, ha, r2⟩ := seq_at w rv h
    have e := r2.ints
    subst e
    exact cr_max hc pins s σ H _ us Q I r ⟨a, ns, rfl, ha, hl, fun m h1 h2 => k _ _ _ _ _ (q m h1 h2) .refl w .int⟩
theorem cmin (hc : X.calm = true) : CallR X (.builtin "min") (lowOA X.K min1) := by
  rintro pins s σ H xs us Q I r ⟨F, μ, ds, Q0, w, rs, q, k⟩
  unfold min1 at q
  split at q <;> first | exact False.elim q | skip
  · obtain ⟨v, u, rfl, rv, ru⟩ := rs.two
    cases rv; cases ru
    exact call_min2 hc pins s σ H _ us Q I r ⟨_, _, rfl, k _ _ _ _ _ q .refl w .int⟩
  · obtain ⟨v, rfl, rv⟩ := rs.one
    obtain ⟨ns, h, hl, q⟩ := q
    obtain ⟨a, vs, rfl, ha, r2⟩ := seq_at w rv h
    have e := r2.ints
    subst e
    exact cr_min hc pins s σ H _ us Q I r ⟨a, ns, rfl, ha, hl, fun m h1 h2 => k _ _ _ _ _ (q m h1 h2) .refl w .int⟩
def sorted1 : OA
  | [x], μ, Q => (∃ ns : List Int, SeqAt μ x (ns.map D.int) ∧ ∀ ns' : List Int, ns'.Perm ns → ns'.Pairwise (· ≤ ·) → NewL (ns'.map D.int) μ Q) ∨
      ∃ ss : List Str, SeqAt μ x (ss.map D.str) ∧ ss.length < 64 ∧ ∀ ys : List Str, ys.Perm ss → sortedS ys = true → NewL (ys.map D.str) μ Q
  | _, _, _ => False
def str1 : OA
  | [.int i], μ, Q => i.natAbs.log2 < 1920 ∧ Q (.str (toString i)) μ
  | _, _, _ => False
theorem cstr : CallR X (.type "str") (lowOA X.K str1) := by
  rintro pins s σ H xs us Q I r ⟨F, μ, ds, Q0, w, rs, q, k⟩
  unfold str1 at q
  split at q <;> first | exact False.elim q | skip
  obtain ⟨v, rfl, rv⟩ := rs.one
  cases rv
  exact call_str_int pins s σ H _ us Q I r ⟨_, rfl, q.1, k _ _ _ _ _ q.2 .refl w .str⟩
/-- a value's type -/
inductive Ty where
  | non | bl | int | str | tup | lst | dct
  deriving DecidableEq
def Ty.nm : Ty → String
  | .non => "NoneType" | .bl => "bool" | .int => "int" | .str => "str" | .tup => "tuple" | .lst => "list" | .dct => "dict"
def tyD (μ : Mu) : D → Option Ty
  | .non => some .non
  | .bl _ => some .bl
  | .int _ => some .int
  | .str _ => some .str
  | .tup _ => some .tup
  | .lst _ => some .lst
  | .rol _ => some .lst
  | .dct _ => some .dct
  | .ref a => match μ a with
    | some (.lst _) => some .lst
    | some (.dct _) => some .dct
    | _ => none
  | _ => none
def isTy : Ty → Ty → Bool
  | .bl, .int => true
  | .non, .non => true | .bl, .bl => true | .int, .int => true | .str, .str => true | .tup, .tup => true | .lst, .lst => true | .dct, .dct => true
  | _, _ => false
theorem isTy_kit (a b : Ty) (h : b ≠ .non) : kitB a.nm b.nm = some (isTy a b) := by
  cases a <;> cases b <;> first | exact absurd rfl h | decide +kernel
def isi (T : Ty) : OA
  | [x, .ty n], μ, Q => n = T.nm ∧ ∃ t, tyD μ x = some t ∧ Q (.bl (isTy t T)) μ
  | _, _, _ => False
theorem tyX_of {K : PySem.W.Frag} {F H : Hp} {μ : Mu} {v : V} {d : D} {t : Ty} (w : Wd K F H μ) (r : Rep K F v d) (h : tyD μ d = some t) : TyX K H v (.type t.nm) := by
  have sq : ∀ {a : Addr} {vs : List V}, SqL K H a vs → TyX K H (.ref a) (.type "list") := by
    rintro a vs ((h | ⟨o, h⟩) | ⟨o, its, n, h, c, _⟩)
    · exact .base (.lst h)
    · exact .base (.frz h)
    · exact .kList h c
  have st : ∀ {a : Addr} {vs : List V}, SqT K H a vs → TyX K H (.ref a) (.type "tuple") := by
    rintro a vs ((h | ⟨o, h⟩) | ⟨o, its, n, h, c, _⟩)
    · exact .base (.tup h)
    · exact .fTuple h
    · exact .kTuple h c
  cases r with
  | non => cases h; exact .base .non
  | bl => cases h; exact .base (.bl _)
  | int => cases h; exact .base (.int _)
  | str => cases h; exact .base (.str _)
  | ty => cases h
  | ins _ _ => cases h
  | tup hq _ => cases h; exact st (sqt_mono w.sub hq)
  | lst hq _ => cases h; exact .base (.lst (w.sub _ _ hq))
  | rol hq _ => cases h; exact sq (w.sub.seq hq)
  | dct hq _ => cases h; exact .base (.dK (w.sub _ _ hq))
  | @ref a =>
    unfold tyD at h
    simp only at h
    split at h
    · next e =>
      cases h
      obtain ⟨vs, h1, _⟩ := mlst_at w e
      exact .base (.lst h1)
    · next e =>
      cases h
      obtain ⟨vs, h1, _⟩ := mdct_at w e
      exact .base (.dK h1)
    · cases h
theorem cisi (T : Ty) (hT : T ≠ .non) : CallR X (.builtin "isinstance") (lowOA X.K (isi T)) := by
  rintro pins s σ H xs us Q I r ⟨F, μ, ds, Q0, w, rs, q, k⟩
  unfold isi at q
  split at q <;> first | exact False.elim q | skip
  obtain ⟨v, u, rfl, rv, ru⟩ := rs.two
  cases ru
  obtain ⟨rfl, t, ht, q⟩ := q
  exact call_isi pins s σ H _ us Q I r ⟨v, .ty T.nm, .type t.nm, .type T.nm, isTy t T, rfl, .ty _, tyX_of w rv ht, kit_ty (isTy_kit t T hT), k _ _ _ _ _ q .refl w .bl⟩
def all1 : OA
  | [x], μ, Q => ∃ bs : List Bool, SeqAt μ x (bs.map D.bl) ∧ Q (.bl (bs.all id)) μ
  | _, _, _ => False
theorem call_ (hc : X.calm = true) : CallR X (.builtin "all") (lowOA X.K all1) := by
  rintro pins s σ H xs us Q I r ⟨F, μ, ds, Q0, w, rs, q, k⟩
  unfold all1 at q
  split at q <;> first | exact False.elim q | skip
  obtain ⟨v, rfl, rv⟩ := rs.one
  obtain ⟨bs, h, q⟩ := q
  obtain ⟨a, vs, rfl, ha, r2⟩ := seq_at w rv h
  have e := r2.bls
  subst e
  exact cr_all hc pins s σ H _ us Q I r ⟨a, bs, rfl, ha, k _ _ _ _ _ q .refl w .bl⟩
def sum1 : OA
  | [x], μ, Q => ∃ ns : List Int, SeqAt μ x (ns.map D.int) ∧ Q (.int ns.sum) μ
  | _, _, _ => False
theorem csum (hc : X.calm = true) : CallR X (.builtin "sum") (lowOA X.K sum1) := by
  rintro pins s σ H xs us Q I r ⟨F, μ, ds, Q0, w, rs, q, k⟩
  unfold sum1 at q
  split at q <;> first | exact False.elim q | skip
  obtain ⟨v, rfl, rv⟩ := rs.one
  obtain ⟨bs, h, q⟩ := q
  obtain ⟨a, vs, rfl, ha, r2⟩ := seq_at w rv h
  have e := r2.ints
  subst e
  exact cr_sum hc pins s σ H _ us Q I r ⟨a, bs, rfl, ha, k _ _ _ _ _ q .refl w .int⟩
def dict1 : OA
  | [x], μ, Q => ∃ kvs, DctAt μ x kvs ∧ NewD kvs μ Q
  | _, _, _ => False
theorem cdict : CallR X (.type "dict") (lowOA X.K dict1) := by
  rintro pins s σ H xs us Q I r ⟨F, μ, ds, Q0, w, rs, q, k⟩
  unfold dict1 at q
  split at q <;> first | exact False.elim q | skip
  obtain ⟨v, rfl, rv⟩ := rs.one
  obtain ⟨bs, h, q⟩ := q
  obtain ⟨a, vs, rfl, ha, r2⟩ := dct_at w rv h
  rw [Vals.ref1 r]
  exact d_copyOf I (.inl ha) fun p s' hp I' => ⟨.ref p, _, I', rfl, newD_ok w hp r2 q k⟩
end
end J

namespace J
open PySem PySem.Spec PyProof.Rows L2
section
variable {X : Cx} {Z : Zw}
theorem csorted : CallR X (.builtin "sorted") (lowOA X.K sorted1) := by
  rintro pins s σ H xs us Q I r ⟨F, μ, ds, Q0, w, rs, q, k⟩
  unfold sorted1 at q
  split at q <;> first | exact False.elim q | skip
  obtain ⟨v, rfl, rv⟩ := rs.one
  rcases q with ⟨ns, h, q⟩ | ⟨ss, h, hl, q⟩
  · obtain ⟨a, vs, rfl, ha, r2⟩ := seq_at w rv h
    have e := r2.ints
    subst e
    exact cr_sortedI pins s σ H _ us Q I r ⟨a, ns, rfl, ha, fun ns' p h1 h2 hp => newL_ok w hp (Reps.of_ints ns') (q ns' h1 h2) k⟩
  · obtain ⟨a, vs, rfl, ha, r2⟩ := seq_at w rv h
    have e := r2.strs
    subst e
    exact cr_sortedS pins s σ H _ us Q I r ⟨a, ss, rfl, ha, hl, fun ns' p h1 h2 hp => newL_ok w hp (Reps.of_strs ns') (q ns' h1 h2) k⟩

/-! ### methods of lists and dicts -/
def TyM (T : String) (x : D) (μ : Mu) : Prop :=
  match x with
  | .str _ => T = "str"
  | .int _ => T = "int"
  | .lst _ => T = "list"
  | .rol _ => T = "list"
  | .dct _ => T = "dict"
  | .ref a => (T = "list" ∧ ∃ xs, μ a = some (.lst xs)) ∨ (T = "dict" ∧ ∃ xs, μ a = some (.dct xs))
  | _ => False
theorem tyM_ok {K : PySem.W.Frag} {F H : Hp} {μ : Mu} {v : V} {x : D} {T : String} (w : Wd K F H μ) (r : Rep K F v x) (h : TyM T x μ) : tyV K T v H := by
  cases r with
  | str => exact h
  | int => exact h
  | lst hq _ => exact .inl ⟨h, _, SqL.of (w.sub _ _ hq)⟩
  | rol hq _ => exact .inl ⟨h, _, w.sub.seq hq⟩
  | dct hq _ => exact .inr (.inr (.inl ⟨h, .inl ⟨_, w.sub _ _ hq⟩⟩))
  | ref =>
    rcases h with ⟨e, xs, h⟩ | ⟨e, xs, h⟩
    · obtain ⟨vs, h1, _⟩ := mlst_at w h
      exact .inl ⟨e, _, SqL.of h1⟩
    · obtain ⟨vs, h1, _⟩ := mdct_at w h
      exact .inr (.inr (.inl ⟨e, .inl ⟨_, h1⟩⟩))
  | non => exact False.elim h
  | bl => exact False.elim h
  | ty => exact False.elim h
  | tup _ _ => exact False.elim h
  | ins _ _ => exact False.elim h
def jBM0 (T : String) (r : OM) (to : TE2) : TE2 := fun δ μ Q => to δ μ fun x μ1 => TyM T x μ1 ∧ r x [] μ1 Q
def jBM (T : String) (r : OM) (to : TE2) (t : TA2) : TE2 := fun δ μ Q => to δ μ fun x μ1 => TyM T x μ1 ∧ t δ μ1 fun ds μ2 => r x ds μ2 Q
theorem jbm0 {o : Expr} {to : TE2} {name : Str} {apos cpos : Pos} {T id : String} {r : OM} (pa : PlainAttrs T) (slot : Slot T name id) (hty : typeOf (.builtin id) = pure (.type "method_descriptor")) (hm : MtR X id (lowOM X.K r)) (ho : E2 X Z o to)
    (hbase : attributeBase o name X.env (eval o X.env) = eval o X.env := by rfl) (hline : (apos.endLine == cpos.line) = true := by rfl) : E2 X Z (.Call (.Attribute o name apos) [] [] cpos) (jBM0 T r to) := by
  refine pe_imp (pe_bm0 pa slot hty hm ho hbase hline) ?_
  rintro σ H Q ⟨F, δ, μ, Q0, m, q, k⟩
  refine ⟨F, δ, μ, _, m, q, ?_⟩
  rintro x μ1 F1 H1 v ⟨ht, q1⟩ g1 w1 r1
  exact ⟨tyM_ok w1 r1 ht, F1, μ1, x, [], Q0, w1, r1, .nil, q1, tr k g1⟩
theorem jbm {o e : Expr} {es : List Expr} {to : TE2} {t : TA2} {name : Str} {apos cpos : Pos} {T id : String} {r : OM} (pa : PlainAttrs T) (slot : Slot T name id) (hty : typeOf (.builtin id) = pure (.type "method_descriptor")) (hm : MtR X id (lowOM X.K r)) (ho : E2 X Z o to) (ha : A2 X Z (e :: es) t)
    (hbase : attributeBase o name X.env (eval o X.env) = eval o X.env := by rfl)
    (hfew : ((backTo cpos (starEach (e :: es) X.env)).all (fun x => !x.1) && (backToKw cpos (keywordEach [] X.env)).all (fun x => x.1.isSome)
      && decide ((e :: es).length + ([] : List Keyword).length + (if ([] : List Keyword).isEmpty then 0 else 1) < 30)) = true := by rfl)
    (hline : (apos.endLine == cpos.line) = true := by rfl) (hs : starEach (e :: es) X.env = (false, eval e X.env) :: starEach es X.env := by rfl) (hplain : (backTo cpos (starEach es X.env)).any (·.1) = false := by rfl) :
    E2 X Z (.Call (.Attribute o name apos) (e :: es) [] cpos) (jBM T r to t) := by
  refine pe_imp (pe_bm pa slot hty hm ho ha hbase hfew hline hs hplain) ?_
  rintro σ H Q ⟨F, δ, μ, Q0, m, q, k⟩
  refine ⟨F, δ, μ, _, m, q, ?_⟩
  rintro x μ1 F1 H1 v ⟨ht, q1⟩ g1 w1 r1
  refine ⟨tyM_ok w1 r1 ht, F1, δ, μ1, _, m.step g1 w1, q1, ?_⟩
  rintro ds μ2 F2 H2 vs q2 g2 w2 r2
  exact ⟨F2, μ2, x, ds, Q0, w2, r1.mono g2.ff, r2, q2, tr k (g1.trans g2)⟩
def append1 : OM
  | .ref a, [y], μ, Q => ∃ xs, μ a = some (.lst xs) ∧ xs.length < sizeLine ∧ Q .non (mup μ a (.lst (xs ++ [y])))
  | _, _, _, _ => False
theorem mappend : MtR X "list.append" (lowOM X.K append1) := by
  rintro pins s σ H x xs v us Q I rx r ⟨F, μ, d, ds, Q0, w, r1, rs, q, k⟩
  unfold append1 at q
  split at q <;> first | exact False.elim q | skip
  cases r1
  obtain ⟨y, rfl, ry⟩ := rs.one
  obtain ⟨zs, h, hl, q⟩ := q
  obtain ⟨vs, h1, r2⟩ := mlst_at w h
  obtain ⟨w2, g2⟩ := w.write h (RepM.lst (r2.append (.cons ry .nil)))
  exact mt_append pins s σ H _ _ v us Q I rx r ⟨_, vs, y, rfl, rfl, h1, by rw [r2.length]; exact hl, k _ _ _ _ _ q g2 w2 .non⟩
def pop1 : OM
  | .ref a, [], μ, Q => ∃ xs y, μ a = some (.lst xs) ∧ xs[xs.length - 1]? = some y ∧ Q y (mup μ a (.lst xs.dropLast))
  | .ref a, [.int i], μ, Q => ∃ xs k y, μ a = some (.lst xs) ∧ -(2 ^ 63) ≤ i ∧ i < 2 ^ 63 ∧ seqIndex? i xs.length = some k ∧ xs[k]? = some y ∧ Q y (mup μ a (.lst (xs.eraseIdx k)))
  | _, _, _, _ => False
theorem Reps.eraseIdx {K : PySem.W.Frag} {F : Hp} : ∀ {vs : List V} {ds : List D} (i : Nat), Reps K F vs ds → Reps K F (vs.eraseIdx i) (ds.eraseIdx i)
  | _, _, _, .nil => .nil
  | _, _, 0, .cons _ t => t
  | _, _, i + 1, .cons q t => .cons q (Reps.eraseIdx i t)
theorem mpop : MtR X "list.pop" (lowOM X.K pop1) := by
  rintro pins s σ H x xs v us Q I rx r ⟨F, μ, d, ds, Q0, w, r1, rs, q, k⟩
  unfold pop1 at q
  split at q <;> first | exact False.elim q | skip
  · cases r1
    cases rs
    obtain ⟨zs, y, h, hy, q⟩ := q
    obtain ⟨vs, h1, r2⟩ := mlst_at w h
    obtain ⟨yv, hyv, ry⟩ := r2.get hy
    obtain ⟨w2, g2⟩ := w.write h (RepM.lst r2.dropLast)
    exact mt_pop pins s σ H _ _ v us Q I rx r ⟨_, vs, yv, rfl, rfl, h1, by rw [r2.length]; exact hyv, k _ _ _ _ _ q g2 w2 ry⟩
  · cases r1
    obtain ⟨iv, rfl, ri⟩ := rs.one
    cases ri
    obtain ⟨zs, j, y, h, b1, b2, hj, hy, q⟩ := q
    obtain ⟨vs, h1, r2⟩ := mlst_at w h
    obtain ⟨yv, hyv, ry⟩ := r2.get hy
    obtain ⟨w2, g2⟩ := w.write h (RepM.lst (r2.eraseIdx j))
    exact mt_popAt pins s σ H _ _ v us Q I rx r ⟨_, vs, _, j, yv, rfl, rfl, h1, b1, b2, by rw [r2.length]; exact hj, hyv, k _ _ _ _ _ q g2 w2 ry⟩
def mergeD (kvs more : List (Key × D)) : List (Key × D) := more.foldl (fun acc kv => putKD acc kv.1 kv.2) kvs
theorem RepK.merge {K : PySem.W.Frag} {F : Hp} : ∀ {more : List (Key × V)} {ms : List (Key × D)} {kvs : List (Key × V)} {ds : List (Key × D)}, RepK K F more ms → RepK K F kvs ds → RepK K F (mergeK kvs more) (mergeD ds ms)
  | [], [], _, _, .nil, h => h
  | (k, v) :: vs, (_, d) :: ds, kvs, es, .cons r t, h => by
    show RepK K F (mergeK (putK kvs k v) vs) (mergeD (putKD es k d) ds)
    exact RepK.merge t (h.put r)
def update1 : OM
  | .ref a, [y], μ, Q => ∃ xs ys, μ a = some (.dct xs) ∧ DctAt μ y ys ∧ y ≠ .ref a ∧ xs.length + ys.length ≤ sizeLine ∧ Q .non (mup μ a (.dct (mergeD xs ys)))
  | _, _, _, _ => False
theorem mupdate : MtR X "dict.update" (lowOM X.K update1) := by
  rintro pins s σ H x xs v us Q I rx r ⟨F, μ, d, ds, Q0, w, r1, rs, q, k⟩
  unfold update1 at q
  split at q <;> first | exact False.elim q | skip
  rename_i a y
  cases r1
  obtain ⟨yv, rfl, ry⟩ := rs.one
  obtain ⟨zs, ys, h, hy, ne, hl, q⟩ := q
  obtain ⟨vs, h1, r2⟩ := mdct_at w h
  obtain ⟨b, ws, rfl, h2, r3⟩ := dct_at w ry hy
  obtain ⟨w2, g2⟩ := w.write h (RepM.dct (r3.merge r2))
  have hab : a ≠ b := by
    intro e
    subst e
    rcases hy with rfl | ⟨c, rfl, hc⟩
    · cases ry with
      | dct hf _ =>
        obtain ⟨fa, _⟩ := w.mts _ _ h
        rw [hf] at fa; cases fa
    · cases ry
      exact ne rfl
  cases (show v = Value.ref a from rx)
  rw [Vals.ref1 r]
  obtain ⟨z1, hd1, ps, rel1, dd1⟩ := dk_of I.hok h1
  obtain ⟨z2, hd2, ps2, rel2, dd2⟩ := dk_of I.hok h2
  refine call_meetsIn PySem.F.slot_dict_update dd1.typeIs PySem.F.entry_dict_update (PySem.F.args_dict_update_2 _ _) (meets_dict_update (mixKind X.prog X.w) a b hab hd2)
    ⟨ps, ps2, dd1, dd2, by rw [← rel1.length, ← rel2.length, r2.length, r3.length]; exact hl, fun h' hm _ hs => ?_⟩
  have hn := rel2.merge rel1
  have hlen := length_mergeK ws vs
  have he : ∃ q, h'.get? a = some q := let ⟨q, _, _, hq, _⟩ := hm; ⟨q, hq⟩
  exact ⟨.non, upd H a (.dK (mergeK vs ws)), d_write (t' := s.toks) I (by rw [h1]; exact True.intro) hs he (dk_new (by have := r2.length; have := r3.length; omega) hd1 hn hm), rfl, k _ _ _ _ _ q g2 w2 .non⟩

/-! ### slices -/
abbrev TO2 := Sg → Mu → (Option Int → Mu → Prop) → Prop
def lowO (K : PySem.W.Frag) (Z : Zw) (t : TO2) : TO := fun σ H Q => ∃ F δ μ Q0, Mt K Z F σ H δ μ ∧ t δ μ Q0 ∧ ∀ b μ' F' H', Q0 b μ' → Gr F H μ F' H' μ' → Wd K F' H' μ' → Q b H'
def jNoPart : TO2 := fun _ μ Q => Q none μ
def jPart (t : TE2) : TO2 := fun δ μ Q => t δ μ fun x μ1 => ∃ i, x = .int i ∧ Q (some i) μ1
theorem jo0 : PO X none (lowO X.K Z jNoPart) := ⟨fun pins s σ H Q I h => by
  obtain ⟨F, δ, μ, Q0, m, q, k⟩ := h
  exact (po_none (X := X)).run pins s σ H Q I (k none μ F H q .refl m.wd)⟩
theorem jo {e : Expr} {te : TE2} (h : E2 X Z e te) : PO X (some e) (lowO X.K Z (jPart te)) := ⟨fun pins s σ H Q I hh => by
  obtain ⟨F, δ, μ, Q0, m, q, k⟩ := hh
  refine (po_some h).run pins s σ H Q I ⟨F, δ, μ, _, m, q, ?_⟩
  rintro x μ1 F1 H1 v ⟨i, rfl, q1⟩ g1 w1 r1
  cases r1
  exact ⟨i, rfl, k _ _ _ _ q1 g1 w1⟩⟩
def cutD (xs : List D) (lo hi : Option Int) : List D := (xs.drop (HT.sIx xs.length 0 lo)).take (HT.sIx xs.length xs.length hi - HT.sIx xs.length 0 lo)
def sl2 (x : D) (lo hi : Option Int) (μ : Mu) (Q : QE) : Prop :=
  (∃ xs, SeqAt μ x xs ∧ NewL (cutD xs lo hi) μ Q) ∨ (∃ xs, x = .tup xs ∧ Q (.tup (cutD xs lo hi)) μ) ∨ ∃ z, x = .str z ∧ z.length ≤ sizeLine ∧ Q (.str (cutS z lo hi)) μ
def lowSl (K : PySem.W.Frag) : V → Option Int → Option Int → Hp → VK → Prop := fun x lo hi H Q => ∃ F μ d Q0, Wd K F H μ ∧ Rep K F x d ∧ sl2 d lo hi μ Q0 ∧ ∀ d' μ' F' H' v, Q0 d' μ' → Gr F H μ F' H' μ' → Wd K F' H' μ' → Rep K F' v d' → Q v H'
theorem cut_rep {K : PySem.W.Frag} {F : Hp} {vs : List V} {xs : List D} (r : Reps K F vs xs) (lo hi : Option Int) : Reps K F (cutV vs lo hi) (cutD xs lo hi) := by
  unfold cutV cutD
  rw [r.length]
  exact (r.drop _).take _
theorem osl : SlR X (lowSl X.K) := by
  rintro pins s σ H x v vl vu lo hi sl Q I rx hs pl pu ⟨F, μ, d, Q0, w, r1, q, k⟩
  rcases q with ⟨xs, hx, n⟩ | ⟨xs, rfl, q⟩ | ⟨z, rfl, hz, q⟩
  · obtain ⟨a, vs, rfl, ha, rs⟩ := seq_at w r1 hx
    exact sl_list pins s σ H _ v vl vu lo hi sl Q I rx hs pl pu ⟨a, vs, rfl, ha, fun p hp => newL_ok w hp (cut_rep rs lo hi) n k⟩
  · obtain ⟨a, vs, rfl, ha, rs⟩ := tup_at w r1
    refine sl_tupA pins s σ H _ v vl vu lo hi sl Q I rx hs pl pu ⟨a, vs, rfl, ha, fun e => ?_, fun _ p hp => newT_ok w hp (cut_rep rs lo hi) q k⟩
    have e2 : cutD xs lo hi = xs := by
      unfold cutD
      rw [← rs.length, e.1, e.2, rs.length]
      simp
    rw [e2] at q
    exact k _ _ _ _ _ q .refl w r1
  · cases r1
    exact sl_str pins s σ H _ v vl vu lo hi sl Q I rx hs pl pu ⟨z, rfl, hz, k _ _ _ _ _ q .refl w .str⟩
def jSl (te : TE2) (tl th : TO2) : TE2 := fun δ μ Q => te δ μ fun x μ1 => tl δ μ1 fun l μ2 => th δ μ2 fun u μ3 => sl2 x l u μ3 Q
theorem jsl {e : Expr} {lo hi : Option Expr} {p2 pos : Pos} {te : TE2} {tl th : TO2} (he : E2 X Z e te) (hl : PO X lo (lowO X.K Z tl)) (hu : PO X hi (lowO X.K Z th)) : E2 X Z (.Subscript e (.Slice lo hi none p2) pos) (jSl te tl th) := by
  refine pe_imp (pe_slice osl he hl hu) ?_
  rintro σ H Q ⟨F, δ, μ, Q0, m, q, k⟩
  refine ⟨F, δ, μ, _, m, q, ?_⟩
  rintro x μ1 F1 H1 v q1 g1 w1 r1
  refine ⟨F1, δ, μ1, _, m.step g1 w1, q1, ?_⟩
  rintro l μ2 F2 H2 q2 g2 w2
  refine ⟨F2, δ, μ2, _, (m.step g1 w1).step g2 w2, q2, ?_⟩
  rintro u μ3 F3 H3 q3 g3 w3
  exact ⟨F3, μ3, x, Q0, w3, (r1.mono g2.ff).mono g3.ff, q3, tr k ((g1.trans g2).trans g3)⟩

/-! ### stores to places -/
def set2 (o i v : D) (μ : Mu) (Q : Mu → Prop) : Prop :=
  (∃ p xs k j, o = .ref p ∧ i = .int k ∧ μ p = some (.lst xs) ∧ ixN xs.length k = some j ∧ Q (mup μ p (.lst (xs.set j v)))) ∨
  ∃ p kvs k, o = .ref p ∧ keyD i = some k ∧ μ p = some (.dct kvs) ∧ kvs.length < sizeLine ∧ Q (mup μ p (.dct (putKD kvs k v)))
def lowSet (K : PySem.W.Frag) : V → V → V → Hp → (Hp → Prop) → Prop := fun o i v H Q => ∃ F μ d e f Q0, Wd K F H μ ∧ Rep K F o d ∧ Rep K F i e ∧ Rep K F v f ∧ set2 d e f μ Q0 ∧ ∀ μ' F' H', Q0 μ' → Gr F H μ F' H' μ' → Wd K F' H' μ' → Q H'
theorem oset (hu : X.A.units + 1 < cLine) : PSet X (lowSet X.K) := by
  rintro pins s σ H o i v ov iv u Q I ro ri rv ⟨F, μ, d, e, f, Q0, w, r1, r2, r3, q, k⟩
  rcases q with ⟨p, xs, n, j, rfl, rfl, h, hj, q⟩ | ⟨p, kvs, kk, rfl, hk, h, hl, q⟩
  · cases r1; cases r2
    obtain ⟨vs, h1, rs⟩ := mlst_at w h
    obtain ⟨w2, g2⟩ := w.write h (RepM.lst (rs.set r3 j))
    exact set_list pins s σ H _ _ v ov iv u Q I ro ri rv ⟨p, vs, n, j, rfl, rfl, h1, by rw [rs.length]; exact hj, k _ _ _ q g2 w2⟩
  · cases r1
    have e1 := keyD_rep r2 hk
    subst e1
    obtain ⟨vs, h1, rs⟩ := mdct_at w h
    obtain ⟨w2, g2⟩ := w.write h (RepM.dct (rs.put (k := kk) r3))
    cases (show ov = Value.ref p from ro)
    exact d_setItem hu I (DPut.k h1 (by rw [rs.length]; exact hl)) ri rv fun s' I' => ⟨_, I', k _ _ _ q g2 w2⟩
def kSub (to ti : TE2) : TG2 := fun v δ μ Q => to δ μ fun o μ1 => ti δ μ1 fun i μ2 => set2 o i v μ2 fun μ3 => Q δ μ3
theorem kgsub {o i : Expr} {to ti : TE2} {pos : Pos} (hu : X.A.units + 1 < cLine) (ho : E2 X Z o to) (hi : E2 X Z i ti)
    (ha : ∀ v, assign (.Subscript o i pos) X.env v = (do
      let ov ← holding [v] (eval o X.env)
      let iv ← holding [v, ov] (eval i X.env)
      standAt pos
      holding [v, ov, iv] (setItem ov iv v)
      release [v, ov, iv] []) := by intro _; rfl) : G2 X Z (.Subscript o i pos) (kSub to ti) := by
  refine pg_imp (pg_sub ho hi (oset hu) ha) ?_
  rintro v σ H Q ⟨F, δ, μ, d, Q0, m, r, q, k⟩
  refine ⟨F, δ, μ, _, m, q, ?_⟩
  rintro x μ1 F1 H1 xv q1 g1 w1 r1
  refine ⟨F1, δ, μ1, _, m.step g1 w1, q1, ?_⟩
  rintro y μ2 F2 H2 yv q2 g2 w2 r2
  refine ⟨F2, μ2, x, y, d, _, w2, r1.mono g2.ff, r2, (r.mono g1.ff).mono g2.ff, q2, ?_⟩
  rintro μ3 F3 H3 q3 g3 w3
  exact k _ _ _ _ _ q3 ((g1.trans g2).trans g3) (((m.step g1 w1).step g2 w2).step g3 w3)
end
end J

namespace J
open PySem PySem.Spec PyProof.Rows L2
section
variable {X : Cx} {Z : Zw} {tg : Expr}
/-! ### what a loop walks -/
def iSeq' (x : D) (μ : Mu) (R : List D → (Mu → Prop) → Mu → Prop) : Prop :=
  match x with
  | .lst xs => R xs (fun _ => True) μ
  | .rol xs => R xs (fun _ => True) μ
  | .ref a => ∃ xs, μ a = some (.lst xs) ∧ R xs (fun μ' => μ' a = some (.lst xs)) μ
  | _ => False
def iL (t : TE2) : TI2 := fun δ μ R => t δ μ fun x μ1 => iSeq' x μ1 R
theorem itOk_list {K : PySem.W.Frag} {F : Hp} {a : Addr} {vs : List V} {xs : List D} {G : Mu → Prop} (rs : Reps K F vs xs) (h : ∀ F' H' μ', Same F F' → Wd K F' H' μ' → G μ' → ∃ ws, SqL K H' a ws ∧ Reps K F' ws xs) : ItOk K (Itl K a) F xs G := by
  intro F' H' μ' ff w g
  obtain ⟨ws, hs, rs'⟩ := h F' H' μ' ff w g
  refine ⟨fun i d hd => ?_, fun i hi => ⟨ws, hs, by rw [rs'.length]; exact hi⟩⟩
  obtain ⟨v, hv, rv⟩ := rs'.get hd
  refine ⟨⟨ws, v, hs, hv⟩, ?_⟩
  rintro x H2 ⟨rfl, hy⟩
  have e := hy ws hs
  rw [hv] at e
  cases e
  exact ⟨F', .refl, w, rv⟩
theorem ji_list {l : Expr} {t : TE2} (hl : E2 X Z l t) : I2 X Z tg l (iL t) := by
  refine pi_imp (pi_list hl) ?_
  rintro σ H R ⟨F, δ, μ, Q0, m, q, k⟩
  refine ⟨F, δ, μ, _, m, q, ?_⟩
  rintro x μ1 F1 H1 v q1 g1 w1 r1
  unfold iSeq' at q1
  split at q1 <;> first | exact False.elim q1 | skip
  · rename_i xs
    obtain ⟨a, vs, rfl, ha, rs⟩ := seq_at w1 r1 SeqAt.f
    refine ⟨a, rfl, ⟨_, ha⟩, k _ _ _ _ _ _ q1 g1 w1 (itOk_list rs fun F' H' μ' ff w' _ => ?_)⟩
    cases r1 with
    | lst hq rq => exact ⟨_, SqL.of (w'.sub _ _ (ff _ _ hq)), rq.mono ff⟩
  · rename_i xs
    obtain ⟨a, vs, rfl, ha, rs⟩ := seq_at w1 r1 SeqAt.r
    refine ⟨a, rfl, ⟨_, ha⟩, k _ _ _ _ _ _ q1 g1 w1 (itOk_list rs fun F' H' μ' ff w' _ => ?_)⟩
    cases r1 with
    | rol hq rq => exact ⟨_, w'.sub.seq (ff.seq hq), rq.mono ff⟩
  · obtain ⟨xs, h, q1⟩ := q1
    cases r1
    obtain ⟨vs, h1, rs⟩ := mlst_at w1 h
    refine ⟨_, rfl, ⟨_, SqL.of h1⟩, k _ _ _ _ _ _ q1 g1 w1 (itOk_list rs fun F' H' μ' ff w' g => ?_)⟩
    obtain ⟨ws, h2, rs2⟩ := mlst_at w' g
    exact ⟨ws, SqL.of h2, rs2⟩
def iT (t : TE2) : TI2 := fun δ μ R => t δ μ fun x μ1 => ∃ xs, x = .tup xs ∧ R xs (fun _ => True) μ1
theorem ji_tup {l : Expr} {t : TE2} (hl : E2 X Z l t) : I2 X Z tg l (iT t) := by
  refine pi_imp (pi_tup hl) ?_
  rintro σ H R ⟨F, δ, μ, Q0, m, q, k⟩
  refine ⟨F, δ, μ, _, m, q, ?_⟩
  rintro x μ1 F1 H1 v ⟨xs, rfl, q1⟩ g1 w1 r1
  cases r1 with
  | tup hq rs =>
    refine ⟨_, rfl, ⟨_, sqt_mono w1.sub hq⟩, k _ _ _ _ _ _ q1 g1 w1 ?_⟩
    intro F' H' μ' ff w' _
    have hs := sqt_mono w'.sub (sqt_mono ff hq)
    have rs' := rs.mono ff
    refine ⟨fun i d hd => ?_, fun i hi => ⟨_, hs, by rw [rs'.length]; exact hi⟩⟩
    obtain ⟨v, hv, rv⟩ := rs'.get hd
    refine ⟨⟨_, v, hs, hv⟩, ?_⟩
    rintro x H2 ⟨rfl, hy⟩
    have e := hy _ hs
    rw [hv] at e
    cases e
    exact ⟨F', .refl, w', rv⟩
/-- the ints from lo on -/
def rngD (lo : Int) (n : Nat) : List D := (List.range n).map fun i => .int (lo + (i : Nat))
theorem itOk_rng {K : PySem.W.Frag} {F : Hp} {lo : Int} {n : Nat} {G : Mu → Prop} : ItOk K (Itr lo n) F (rngD lo n) G := by
  intro F' H' μ' ff w g
  refine ⟨fun i d hd => ?_, fun i hi => (by show n ≤ i; simpa [rngD] using hi)⟩
  unfold rngD at hd
  rw [List.getElem?_map] at hd
  by_cases hi : i < n
  · rw [List.getElem?_range hi] at hd
    cases hd
    refine ⟨hi, ?_⟩
    rintro x H2 ⟨rfl, rfl⟩
    exact ⟨F', .refl, w, .int⟩
  · rw [List.getElem?_eq_none (by simpa using hi)] at hd
    cases hd
def rngOk (i : Int) : Prop := -(2 ^ 62) ≤ i ∧ i < 2 ^ 62
def iR1 (t : TA2) : TI2 := fun δ μ R => t δ μ fun ds μ1 => ∃ j, ds = [.int j] ∧ rngOk j ∧ R (rngD 0 j.toNat) (fun _ => True) μ1
def iR2 (t : TA2) : TI2 := fun δ μ R => t δ μ fun ds μ1 => ∃ i j, ds = [.int i, .int j] ∧ rngOk i ∧ rngOk j ∧ R (rngD i (j - i).toNat) (fun _ => True) μ1
theorem ji_range1 {a : Expr} {t : TA2} {p pos : Pos} (hg : Gl X "range") (hm : X.mg "range" = none) (ha : A2 X Z [a] t) (hs : starEach [a] X.env = [(false, eval a X.env)] := by rfl) : I2 X Z tg (.Call (.Name "range" p) [a] [] pos) (iR1 t) := by
  refine pi_imp (pi_range1 hg hm ha hs) ?_
  rintro σ H R ⟨F, δ, μ, Q0, m, q, k⟩
  refine ⟨F, δ, μ, _, m, q, ?_⟩
  rintro ds μ1 F1 H1 vs ⟨j, rfl, hj, q1⟩ g1 w1 r1
  obtain ⟨v, rfl, rv⟩ := r1.one
  cases rv
  exact ⟨j, rfl, hj.1, hj.2, k _ _ _ _ _ _ q1 g1 w1 itOk_rng⟩
theorem ji_range2 {a b : Expr} {t : TA2} {p pos : Pos} (hg : Gl X "range") (hm : X.mg "range" = none) (ha : A2 X Z [a, b] t) (hs : starEach [a, b] X.env = [(false, eval a X.env), (false, eval b X.env)] := by rfl) (hs2 : starEach [b] X.env = [(false, eval b X.env)] := by rfl) : I2 X Z tg (.Call (.Name "range" p) [a, b] [] pos) (iR2 t) := by
  refine pi_imp (pi_range2 hg hm ha hs hs2) ?_
  rintro σ H R ⟨F, δ, μ, Q0, m, q, k⟩
  refine ⟨F, δ, μ, _, m, q, ?_⟩
  rintro ds μ1 F1 H1 vs ⟨i, j, rfl, hi, hj, q1⟩ g1 w1 r1
  obtain ⟨v, u, rfl, rv, ru⟩ := r1.two
  cases rv; cases ru
  exact ⟨i, j, rfl, ⟨hi.1, hi.2, hj.1, hj.2⟩, k _ _ _ _ _ _ q1 g1 w1 itOk_rng⟩
def strD (x : Str) : List D := x.cps.toList.map fun c => .str ⟨#[c]⟩
def iStr2 (t : TE2) : TI2 := fun δ μ R => t δ μ fun x μ1 => ∃ z, x = .str z ∧ R (strD z) (fun _ => True) μ1
theorem ji_str {l : Expr} {t : TE2} (hl : E2 X Z l t) : I2 X Z tg l (iStr2 t) := by
  refine pi_imp (pi_str hl) ?_
  rintro σ H R ⟨F, δ, μ, Q0, m, q, k⟩
  refine ⟨F, δ, μ, _, m, q, ?_⟩
  rintro x μ1 F1 H1 v ⟨z, rfl, q1⟩ g1 w1 r1
  cases r1
  refine ⟨z, rfl, k _ _ _ _ _ _ q1 g1 w1 ?_⟩
  intro F' H' μ' ff w' _
  refine ⟨fun i d hd => ?_, fun i hi => (by show z.cps.size ≤ i; simpa [strD] using hi)⟩
  unfold strD at hd
  rw [List.getElem?_map] at hd
  cases e : z.cps.toList[i]? with
  | none => rw [e] at hd; cases hd
  | some c =>
    rw [e] at hd
    cases hd
    have hi : i < z.cps.size := by
      have := (List.getElem?_eq_some_iff.mp e).1
      simpa using this
    refine ⟨hi, ?_⟩
    rintro x H2 ⟨rfl, c', hc, rfl⟩
    rw [← Array.getElem?_toList, e] at hc
    cases hc
    exact ⟨F', .refl, w', .str⟩

/-! ### comprehensions -/
def wipeD (δ : Sg) : List Nat → Sg
  | [] => δ
  | v :: vs => (wipeD δ vs).set v none
theorem repE_wipe {K : PySem.W.Frag} {F : Hp} {σ : Sv} {δ : Sg} (r : RepE K F σ δ) : ∀ vs : List Nat, RepE K F (wipe σ vs) (wipeD δ vs)
  | [] => r
  | v :: vs => (repE_wipe r vs).wipe1 v
theorem wipe_at {σ : Sv} : ∀ (vs : List Nat) (i : Nat), (wipe σ vs)[i]? = if i ∈ vs then σ[i]?.map (fun _ => none) else σ[i]?
  | [], i => by simp [wipe]
  | v :: vs, i => by
    rw [wipe, List.getElem?_set]
    have ih := wipe_at (σ := σ) vs i
    by_cases h : v = i
    · subst h
      simp only [if_true, List.mem_cons, true_or]
      rw [wipe_length]
      split
      · next hl => simp [hl]
      · next hl => simp [List.getElem?_eq_none (Nat.le_of_not_lt hl)]
    · rw [if_neg h, ih]
      have h' : ¬ i = v := fun e => h e.symm
      simp only [List.mem_cons, h', false_or]
theorem wipe_set {σ : Sv} {vs : List Nat} {j : Nat} (hj : j ∈ vs) (y : Option V) : wipe ((wipe σ vs).set j y) vs = wipe σ vs := by
  apply List.ext_getElem?
  intro i
  rw [wipe_at, wipe_at, List.getElem?_set, wipe_at, wipe_length]
  by_cases hi : i ∈ vs
  · simp only [hi, if_true]
    by_cases hji : j = i
    · subst hji
      simp only [if_true]
      split
      · next hl => simp [hl]
      · next hl => simp [List.getElem?_eq_none (Nat.le_of_not_lt hl)]
    · rw [if_neg hji]
      cases σ[i]? <;> simp
  · simp only [hi, if_false]
    have hji : ¬ j = i := fun e => hi (e ▸ hj)
    rw [if_neg hji]
/-- a target that stores into the slots vs alone -/
structure GW (K : PySem.W.Frag) (Z : Zw) (vs : List Nat) (g : TG) (g2 : TG2) : Prop where
  run : ∀ (v : V) (d : D) (σ : Sv) (F H : Hp) (δ : Sg) (μ : Mu) (Q0 : Sg → Mu → Prop) (Q : Sv → Hp → Prop), Mt K Z F (wipe σ vs) H δ μ → Rep K F v d → g2 d δ μ Q0 → (∀ δ' σ', Q0 δ' μ → Mt K Z F σ' H δ' μ → wipe σ' vs = wipe σ vs → Q σ' H) → g v (wipe σ vs) H Q
theorem gw_name {K : PySem.W.Frag} {vs : List Nat} {j : Nat} (hj : j ∈ vs) : GW K Z vs (gName j) (kName j) := ⟨fun v d σ F H δ μ Q0 Q m r q k => k _ _ q ⟨m.wd, m.env.set r j, m.z⟩ (wipe_set hj _)⟩
/-- names one after another -/
def kNames : List Nat → TGs2
  | [] => kNil
  | j :: js => kCons (kName j) (kNames js)
def gNames : List Nat → TGs
  | [] => gNil
  | j :: js => gCons (gName j) (gNames js)
theorem wipe_sets {σ τ : Sv} {vs : List Nat} {j : Nat} (hj : j ∈ vs) (h : wipe τ vs = wipe σ vs) (y : Option V) : wipe (τ.set j y) vs = wipe σ vs := by
  rw [← h]
  apply List.ext_getElem?
  intro i
  rw [wipe_at, wipe_at, List.getElem?_set]
  by_cases hi : i ∈ vs
  · simp only [hi, if_true]
    by_cases hji : j = i
    · subst hji
      simp only [if_true]
      split
      · next hl => simp [hl]
      · next hl => simp [List.getElem?_eq_none (Nat.le_of_not_lt hl)]
    · rw [if_neg hji]
  · simp only [hi, if_false]
    have hji : ¬ j = i := fun e => hi (e ▸ hj)
    rw [if_neg hji]
theorem gnames_run {K : PySem.W.Frag} {vs : List Nat} {σ : Sv} {F H : Hp} {μ : Mu} {Q0 : Sg → Mu → Prop} {Q : Sv → Hp → Prop} (k : ∀ δ' σ', Q0 δ' μ → Mt K Z F σ' H δ' μ → wipe σ' vs = wipe σ vs → Q σ' H) :
    ∀ (js : List Nat) (us : List V) (ds : List D) (τ : Sv) (δ : Sg), (∀ j ∈ js, j ∈ vs) → Mt K Z F τ H δ μ → wipe τ vs = wipe σ vs → Reps K F us ds → kNames js ds δ μ Q0 → gNames js us τ H Q
  | [], us, ds, τ, δ, _, m, hw, r, ⟨e, q⟩ => by
    subst e
    cases r
    exact ⟨rfl, k _ _ q m hw⟩
  | j :: js, us, ds, τ, δ, hj, m, hw, r, ⟨d, rr, e, q⟩ => by
    subst e
    cases r with
    | cons ra rb => exact ⟨_, _, rfl, gnames_run k js _ rr (τ.set j _) (δ.set j (some d)) (fun i hi => hj i (List.mem_cons_of_mem _ hi)) ⟨m.wd, m.env.set ra j, m.z⟩ (wipe_sets (hj j (List.mem_cons_self ..)) hw _) rb q⟩
theorem wipe_wipe {σ : Sv} {vs : List Nat} : wipe (wipe σ vs) vs = wipe σ vs := by
  apply List.ext_getElem?
  intro i
  rw [wipe_at, wipe_at]
  by_cases hi : i ∈ vs
  · simp only [hi, if_true]
    cases σ[i]? <;> simp
  · simp only [hi, if_false]
theorem gw_names {K : PySem.W.Frag} {vs : List Nat} {n : Nat} {js : List Nat} (hj : ∀ j ∈ js, j ∈ vs) : GW K Z vs (gTup K n (gNames js)) (kTup n (kNames js)) := ⟨fun v d σ F H δ μ Q0 Q m r q k => by
  obtain ⟨xs, rfl, hl, q⟩ := q
  obtain ⟨a, us, rfl, ha, rs⟩ := tup_at m.wd r
  exact ⟨a, us, rfl, ha, by rw [rs.length]; exact hl, gnames_run k js us xs _ δ hj m wipe_wipe rs q⟩⟩
def jLcl (g : TG2) (tt : TT2) (te : TE2) (δ0 : Sg) (G : Mu → Prop) (k : List D → Mu → Prop) : List D → List D → Mu → Prop
  | [], acc => fun μ => G μ ∧ k acc μ
  | x :: r, acc => fun μ => G μ ∧ g x δ0 μ fun δ1 μ1 => tt δ1 μ1 fun b μ2 => if b = true then te δ1 μ2 fun y μ3 => acc.length < sizeLine ∧ jLcl g tt te δ0 G k r (acc ++ [y]) μ3 else jLcl g tt te δ0 G k r acc μ2
/-- [elt for target in iter if ..]: the items one by one -/
def jLc (ti : TI2) (g : TG2) (tt : TT2) (te : TE2) (vs : List Nat) : TE2 := fun δ μ Q => ti δ μ fun items G μ1 => jLcl g tt te (wipeD δ vs) G (fun acc μ' => NewL acc μ' Q) items [] μ1
def jYes : TT2 := fun _ μ Q => Q true μ
theorem jts0 : PTs X [] (lowT X.K Z jYes) := ⟨fun pins s σ H Q I h => by
  obtain ⟨F, δ, μ, Q0, m, q, k⟩ := h
  exact (pts_nil (X := X)).run pins s σ H Q I (k true μ F H q .refl m.wd)⟩
theorem jts1 {c : Expr} {t : TT2} (h : T2 X Z c t) : PTs X [c] (lowT X.K Z t) := pts_one h
theorem low_lc {K : PySem.W.Frag} {ti : TI2} {g : TG} {g2 : TG2} {tt : TT2} {te : TE2} {vs : List Nat} {σ : Sv} {H : Hp} {Q : VK} (gw : GW K Z vs g g2) (h : lowE K Z (jLc ti g2 tt te vs) σ H Q) : tLc (lowI K Z ti) g (lowT K Z tt) (lowE K Z te) vs σ H Q := by
  obtain ⟨F, δ, μ, Q0, m, q, k⟩ := h
  refine ⟨F, δ, μ, _, m, q, ?_⟩
  intro items G μ1 F1 H1 J q1 g1 w1 io L hL
  have m1 := m.step g1 w1
  have fL : F1 L = none := by
    cases e : F1 L with
    | none => rfl
    | some u => rw [w1.sub _ _ e] at hL; cases hL
  have uL : μ1 L = none := by
    cases e : μ1 L with
    | none => rfl
    | some u =>
      obtain ⟨_, ho, e2, _⟩ := w1.mts _ _ e
      rw [e2] at hL; cases hL
  let P : Nat → Hp → Prop := fun i H2 => ∃ F2 μ2 acc us, Gr F1 H1 μ1 F2 H2 μ2 ∧ Wd K F2 H2 μ2 ∧ H2 L = some (.lst us) ∧ F2 L = none ∧ μ2 L = none ∧ Reps K F2 us acc ∧ jLcl g2 tt te (wipeD δ vs) G (fun acc μ' => NewL acc μ' Q0) (items.drop i) acc μ2
  have wr : ∀ {F2 H2 μ2} {us : List V}, Wd K F2 H2 μ2 → F2 L = none → μ2 L = none → Wd K F2 (upd H2 L (.lst us)) μ2 := by
    intro F2 H2 μ2 us w2 h1 h2
    refine ⟨fun b u e => by rw [upd_ne (fun z => by rw [z, h1] at e; cases e)]; exact w2.sub b u e, fun a u e => ?_⟩
    obtain ⟨x1, ho, x2, x3⟩ := w2.mts a u e
    exact ⟨x1, ho, by rw [upd_ne (fun z => by rw [z, h2] at e; cases e)]; exact x2, x3⟩
  have gr : ∀ {F2 H2 μ2} {us : List V}, Gr F1 H1 μ1 F2 H2 μ2 → Gr F1 H1 μ1 F2 (upd H2 L (.lst us)) μ2 := by
    intro F2 H2 μ2 us g
    refine ⟨g.ff, fun b u h1 h2 h3 => ?_⟩
    obtain ⟨x1, x2, x3⟩ := g.fr b u h1 h2 h3
    exact ⟨by rw [upd_ne (fun z => by rw [z, hL] at h1; cases h1)]; exact x1, x2, x3⟩
  refine ⟨fun i n H2 => n = items.length - i ∧ i ≤ items.length ∧ P i H2, ⟨_, rfl, Nat.zero_le _, F1, μ1, [], [], gr .refl, wr w1 fL uL, upd_same, fL, uL, .nil, q1⟩, ?_⟩
  rintro i n H2 ⟨rfl, hi, F2, μ2, acc, us, g2', w2, hL2, fL2, uL2, rs, q2⟩
  by_cases hlt : i < items.length
  · obtain ⟨x, hx, hd⟩ := drop_at hlt
    rw [hd] at q2
    obtain ⟨hG, q2⟩ := q2
    obtain ⟨go, yl⟩ := (io F2 H2 μ2 g2'.ff w2 hG).1 i x hx
    refine .inr ⟨go, P (i + 1), fun H' z => ⟨items.length - (i + 1), by omega, rfl, by omega, z⟩, ?_⟩
    intro xv H3 hy
    obtain ⟨F3, g3, w3, r3⟩ := yl xv H3 hy
    have gg3 := g2'.trans g3
    obtain ⟨hL3, fL3, uL3⟩ := g3.fr L _ hL2 fL2 uL2
    have m3 : Mt K Z F3 (wipe σ vs) H3 (wipeD δ vs) μ2 := ⟨w3, repE_wipe (m1.env.mono gg3.ff) vs, Z.up m1.z gg3⟩
    refine gw.run xv x σ F3 H3 _ μ2 _ _ m3 r3 q2 ?_
    intro δ4 σ4 q4 m4 hw4
    refine ⟨hw4, F3, δ4, μ2, _, m4, q4, ?_⟩
    intro b μ5 F5 H5 q5 g5 w5
    have gg5 := gg3.trans g5
    obtain ⟨hL5, fL5, uL5⟩ := g5.fr L _ hL3 fL3 uL3
    cases b with
    | true =>
      rw [if_pos rfl] at q5 ⊢
      refine ⟨F5, δ4, μ5, _, m4.step g5 w5, q5, ?_⟩
      rintro y μ6 F6 H6 yv ⟨hz, q6⟩ g6 w6 r6
      obtain ⟨hL6, fL6, uL6⟩ := g6.fr L _ hL5 fL5 uL5
      exact ⟨us, hL6, by rw [rs.length]; exact hz, F6, μ6, acc ++ [y], us ++ [yv], gr (gg5.trans g6), wr w6 fL6 uL6, upd_same, fL6, uL6, (rs.mono ((g3.trans g5).trans g6).ff).append (.cons r6 .nil), q6⟩
    | false =>
      rw [if_neg Bool.false_ne_true] at q5 ⊢
      exact ⟨F5, μ5, acc, us, gg5, w5, hL5, fL5, uL5, rs.mono (g3.trans g5).ff, q5⟩
  · have ei : i = items.length := by omega
    subst ei
    rw [List.drop_length] at q2
    obtain ⟨hG, q2⟩ := q2
    refine .inl ⟨(io F2 H2 μ2 g2'.ff w2 hG).2 _ (Nat.le_refl _), ?_⟩
    have back : ∀ b o, H b = some o → F b = none → μ b = none → b ≠ L := fun b o h1 h2 h3 z => by
      obtain ⟨x1, _⟩ := g1.fr b o h1 h2 h3
      rw [z, hL] at x1; cases x1
    have gt := g1.trans g2'
    rcases q2 with q2 | q2
    · have ff : Same F2 (upd F2 L (.lst us)) := fun b u e => by rw [upd_ne (ne_of_none e fL2)]; exact e
      have w3 : Wd K (upd F2 L (.lst us)) H2 μ2 := by
        refine ⟨fun b u e => ?_, fun a u e => ?_⟩
        · by_cases hb : b = L
          · subst hb; rw [upd_same] at e; rw [hL2]; exact e
          · rw [upd_ne hb] at e; exact w2.sub b u e
        · obtain ⟨x1, ho, x2, x3⟩ := w2.mts a u e
          exact ⟨by rw [upd_ne (fun z => by rw [z, uL2] at e; cases e)]; exact x1, ho, x2, x3.mono ff⟩
      refine k _ μ2 _ H2 _ q2 ⟨gt.ff.trans ff, fun b o h1 h2 h3 => ?_⟩ w3 (.lst upd_same (rs.mono ff))
      obtain ⟨x1, x2, x3⟩ := gt.fr b o h1 h2 h3
      exact ⟨x1, by rw [upd_ne (back b o h1 h2 h3)]; exact x2, x3⟩
    · have w3 : Wd K F2 H2 (mup μ2 L (.lst acc)) := by
        refine ⟨w2.sub, fun a u e => ?_⟩
        by_cases ha : a = L
        · subst ha
          rw [mup_same] at e; cases e
          exact ⟨fL2, _, hL2, .lst rs⟩
        · rw [mup_ne ha] at e
          exact w2.mts a u e
      refine k _ _ _ H2 _ (q2 L uL2) ⟨gt.ff, fun b o h1 h2 h3 => ?_⟩ w3 .ref
      obtain ⟨x1, x2, x3⟩ := gt.fr b o h1 h2 h3
      exact ⟨x1, x2, by rw [mup_ne (back b o h1 h2 h3)]; exact x3⟩
theorem jlc {elt tg iter : Expr} {ifs : List Expr} {scope : Scope} {own : List (Str × Nat)} {pos : Pos} {ti : TI2} {g : TG} {g2 : TG2} {tt : TT2} {te : TE2} (hc : X.calm = true) (hN : X.N.Nodup) (hi : I2 X Z tg iter ti) (ok : BlkOk X.N X.env.scope scope own) (gw : GW X.K Z (own.map (·.2)) g g2)
    (hg : ∀ (s : Shared) (H : Hp) (C : Addr) (cl : List (Str × Addr)) (fp : List Addr), PG (X.blk s H scope (compEnvC scope cl C X.env) fp) tg g) (ht : ∀ (s : Shared) (H : Hp) (C : Addr) (cl : List (Str × Addr)) (fp : List Addr), PTs (X.blk s H scope (compEnvC scope cl C X.env) fp) ifs (lowT X.K Z tt))
    (he : ∀ (s : Shared) (H : Hp) (C : Addr) (cl : List (Str × Addr)) (fp : List Addr), E2 (X.blk s H scope (compEnvC scope cl C X.env) fp) Z elt te) (hs : ∀ x, foldedSetIterable iter X.env x = pure x := by intro _; rfl) :
    E2 X Z (.ListComp elt [⟨tg, iter, ifs, 0⟩] scope pos) (jLc ti g2 tt te (own.map (·.2))) := pe_imp (pe_lc hc hN hi ok hg ht he hs) fun _ _ _ q => low_lc gw q
theorem js_setLc {i : Nat} {y : Str} {py : Pos} {elt tg iter : Expr} {ifs : List Expr} {scope : Scope} {own : List (Str × Nat)} {pos spos : Pos} {ti : TI2} {g : TG} {g2 : TG2} {tt : TT2} {te : TE2} (hc : X.calm = true) (hN : X.N.Nodup) (hy : X.N[i]? = some y) (hyl : X.env.scope.names.lookup y = some .local)
    (hsw : swapsWith (.ListComp elt [⟨tg, iter, ifs, 0⟩] scope pos) (some (.Name y py)) spos.line X.env = pure true) (hi : I2 X Z tg iter ti) (ok : BlkOk X.N X.env.scope scope own) (gw : GW X.K Z (own.map (·.2)) g g2)
    (hg : ∀ (s : Shared) (H : Hp) (C : Addr) (cl : List (Str × Addr)) (fp : List Addr), PG (X.blk s H scope (compEnvC scope cl C X.env) fp) tg g) (ht : ∀ (s : Shared) (H : Hp) (C : Addr) (cl : List (Str × Addr)) (fp : List Addr), PTs (X.blk s H scope (compEnvC scope cl C X.env) fp) ifs (lowT X.K Z tt))
    (he : ∀ (s : Shared) (H : Hp) (C : Addr) (cl : List (Str × Addr)) (fp : List Addr), E2 (X.blk s H scope (compEnvC scope cl C X.env) fp) Z elt te) (hs : ∀ x, foldedSetIterable iter X.env x = pure x := by intro _; rfl) :
    S2 X Z (.Assign [.Name y py] (.ListComp elt [⟨tg, iter, ifs, 0⟩] scope pos) spos) (jAsg (jLc ti g2 tt te (own.map (·.2))) (kName i)) := by
  refine ps_imp (ps_setLc (te := lowE X.K Z te) hc hN hy hyl hsw hi ok hg ht he hs) ?_
  rintro D σ H ⟨F, δ, μ, D2, m, q, e⟩
  refine low_lc gw (K := X.K) (Z := Z) ⟨F, δ, μ, _, m, q, ?_⟩
  intro d μ1 F1 H1 v q1 g1 w1 r1
  have m1 := m.step g1 w1
  exact e.nx _ μ1 F1 _ H1 q1 g1 ⟨w1, m1.env.set r1 i, m1.z⟩

/-! ### displays of dicts -/
def jPairs : List (TE2 × TE2) → Sg → Mu → (List (D × D) → Mu → Prop) → Prop
  | [], _, μ, Q => Q [] μ
  | (tk, tv) :: r, δ, μ, Q => tk δ μ fun x μ1 => tv δ μ1 fun y μ2 => jPairs r δ μ2 fun ps μ3 => Q ((x, y) :: ps) μ3
inductive RepP (K : PySem.W.Frag) (F : Hp) : List (V × V) → List (D × D) → Prop
  | nil : RepP K F [] []
  | cons {v w d e vs ds} : Rep K F v d → Rep K F w e → RepP K F vs ds → RepP K F ((v, w) :: vs) ((d, e) :: ds)
def lowP (K : PySem.W.Frag) (Z : Zw) : List (TE2 × TE2) → List (TE × TE) := List.map fun p => (lowE K Z p.1, lowE K Z p.2)
theorem low_pairs {K : PySem.W.Frag} {σ : Sv} {δ : Sg} : ∀ (trs : List (TE2 × TE2)) {F H : Hp} {μ : Mu} {Q0 : List (D × D) → Mu → Prop} {Q : List (V × V) → Hp → Prop}, Mt K Z F σ H δ μ → jPairs trs δ μ Q0 →
    (∀ ps μ' F' H' vs, Q0 ps μ' → Gr F H μ F' H' μ' → Wd K F' H' μ' → RepP K F' vs ps → Q vs H') → tPairs (lowP K Z trs) σ H Q
  | [], F, H, μ, Q0, Q, m, q, k => k [] μ F H [] q .refl m.wd .nil
  | (tk, tv) :: r, F, H, μ, Q0, Q, m, q, k => by
    refine ⟨F, δ, μ, _, m, q, ?_⟩
    intro x μ1 F1 H1 v q1 g1 w1 r1
    refine ⟨F1, δ, μ1, _, m.step g1 w1, q1, ?_⟩
    intro y μ2 F2 H2 u q2 g2 w2 r2
    refine low_pairs r ((m.step g1 w1).step g2 w2) q2 ?_
    intro ps μ3 F3 H3 vs q3 g3 w3 r3
    exact k _ _ _ _ _ q3 ((g1.trans g2).trans g3) w3 (.cons ((r1.mono g2.ff).mono g3.ff) (r2.mono g3.ff) r3)
def keysOf : List (D × D) → Option (List (Key × D))
  | [] => some []
  | (k, v) :: r => (keyD k).bind fun k' => (keysOf r).map fun rs => (k', v) :: rs
theorem keysOf_rep {K : PySem.W.Frag} {F : Hp} : ∀ {vs : List (V × V)} {ps : List (D × D)} {kvs : List (Key × D)}, RepP K F vs ps → keysOf ps = some kvs → ∃ kws : List (Key × V), vs = kws.map (fun kv => (kV kv.1, kv.2)) ∧ RepK K F kws kvs
  | _, _, _, .nil, h => by
    cases h
    exact ⟨[], rfl, .nil⟩
  | _, _, _, .cons (d := d) (ds := ds) r1 r2 t, h => by
    unfold keysOf at h
    cases e : keyD d with
    | none => rw [e] at h; cases h
    | some kk =>
      rw [e] at h
      cases e2 : keysOf ds with
      | none => rw [e2] at h; cases h
      | some rs =>
        rw [e2] at h
        cases h
        obtain ⟨kws, rfl, rk⟩ := keysOf_rep t e2
        have e3 := keyD_rep r1 e
        subst e3
        exact ⟨_ :: kws, rfl, .cons r2 rk⟩
def jDisp (trs : List (TE2 × TE2)) : TE2 := fun δ μ Q => jPairs trs δ μ fun ps μ1 => ∃ kvs, keysOf ps = some kvs ∧ kvs.length ≤ 15 ∧ NewD (mergeD [] kvs) μ1 Q
theorem jpps0 {pos : Pos} : PPs X pos [] [] (lowP X.K Z []) := pps_nil
theorem jpps {pos : Pos} {k v : Expr} {ks : List (Option Expr)} {vs : List Expr} {tk tv : TE2} {trs : List (TE2 × TE2)} (hk : E2 X Z k tk) (hv : E2 X Z v tv) (hr : PPs X pos ks vs (lowP X.K Z trs)) : PPs X pos (some k :: ks) (v :: vs) (lowP X.K Z ((tk, tv) :: trs)) := pps_cons hk hv hr
theorem jdisp {pos : Pos} {keys : List (Option Expr)} {values : List Expr} {trs : List (TE2 × TE2)} {y : PE X (.Dict keys values pos) (tDisp (lowP X.K Z trs))} : E2 X Z (.Dict keys values pos) (jDisp trs) := by
  refine pe_imp y ?_
  rintro σ H Q ⟨F, δ, μ, Q0, m, q, k⟩ p hp
  have fp : F p = none := by
    cases e : F p with
    | none => rfl
    | some u => rw [m.wd.sub _ _ e] at hp; cases hp
  have up : μ p = none := by
    cases e : μ p with
    | none => rfl
    | some u =>
      obtain ⟨_, ho, e2, _⟩ := m.wd.mts _ _ e
      rw [e2] at hp; cases hp
  have w0 : Wd X.K F (upd H p (.dK [])) μ := by
    refine ⟨fun b u e => by rw [upd_ne (ne_of_none e fp)]; exact m.wd.sub b u e, fun a u e => ?_⟩
    obtain ⟨x1, ho, x2, x3⟩ := m.wd.mts a u e
    exact ⟨x1, ho, by rw [upd_ne (ne_of_none x2 hp)]; exact x2, x3⟩
  have g0 : Gr F H μ F (upd H p (.dK [])) μ := ⟨Same.refl _, fun b o h1 h2 h3 => ⟨by rw [upd_ne (ne_of_none h1 hp)]; exact h1, h2, h3⟩⟩
  refine low_pairs (Z := Z) (K := X.K) (δ := δ) trs (m.step g0 w0) q ?_
  rintro ps μ1 F1 H1 vs ⟨kvs, hk, hl, n⟩ g1 w1 r1
  obtain ⟨h1, f1, u1⟩ := g1.fr p _ upd_same fp up
  obtain ⟨kws, rfl, rk⟩ := keysOf_rep r1 hk
  refine ⟨h1, kws, rfl, by rw [rk.length]; exact hl, ?_⟩
  have rm : RepK X.K F1 (mergeK [] kws) (mergeD [] kvs) := rk.merge .nil
  -- the dict's own place, told anew
  have back : ∀ b o, H b = some o → b ≠ p := fun b o h z => by rw [z, hp] at h; cases h
  have g01 := g0.trans g1
  rcases n with n | n
  · have ff : Same F1 (upd F1 p (.dK (mergeK [] kws))) := fun b u e => by rw [upd_ne (ne_of_none e f1)]; exact e
    refine k _ μ1 (upd F1 p (.dK (mergeK [] kws))) _ _ n ⟨g01.ff.trans ff, fun b o x1 x2 x3 => ?_⟩ ⟨fun b u e => ?_, fun a u e => ?_⟩ (.dct upd_same (rm.mono ff))
    · obtain ⟨y1, y2, y3⟩ := g01.fr b o x1 x2 x3
      exact ⟨by rw [upd_ne (back b o x1)]; exact y1, by rw [upd_ne (back b o x1)]; exact y2, y3⟩
    · by_cases hb : b = p
      · subst hb; rw [upd_same] at e ⊢; exact e
      · rw [upd_ne hb] at e ⊢; exact w1.sub b u e
    · obtain ⟨y1, ho, y2, y3⟩ := w1.mts a u e
      have ha : a ≠ p := fun z => by rw [z, u1] at e; cases e
      exact ⟨by rw [upd_ne ha]; exact y1, ho, by rw [upd_ne ha]; exact y2, y3.mono ff⟩
  · refine k _ (mup μ1 p (.dct (mergeD [] kvs))) F1 _ _ (n p u1) ⟨g01.ff, fun b o x1 x2 x3 => ?_⟩ ⟨fun b u e => ?_, fun a u e => ?_⟩ .ref
    · obtain ⟨y1, y2, y3⟩ := g01.fr b o x1 x2 x3
      exact ⟨by rw [upd_ne (back b o x1)]; exact y1, y2, by rw [mup_ne (back b o x1)]; exact y3⟩
    · have hb : b ≠ p := fun z => by rw [z, f1] at e; cases e
      rw [upd_ne hb]; exact w1.sub b u e
    · by_cases ha : a = p
      · subst ha
        rw [mup_same] at e; cases e
        exact ⟨f1, _, upd_same, .dct rm⟩
      · rw [mup_ne ha] at e
        obtain ⟨y1, ho, y2, y3⟩ := w1.mts a u e
        exact ⟨y1, ho, by rw [upd_ne ha]; exact y2, y3⟩
def jDnew : TE2 := fun _ μ Q => NewD [] μ Q
theorem jdnew {pos : Pos} : E2 X Z (.Dict [] [] pos) jDnew := by
  refine pe_imp pe_dnewK ?_
  rintro σ H Q ⟨F, δ, μ, Q0, m, q, k⟩ p hp
  exact newD_ok m.wd hp .nil q k

/-! ### a, b = x, y -/
def jPar (is : List Nat) (t : TA2) : TS2 := fun D δ μ => t δ μ fun ds μ1 => ds.length = is.length ∧ D.nx ((is.zip ds).foldl (fun δ p => δ.set p.1 (some p.2)) δ) μ1
theorem js_par {i j : Nat} {x y : Str} {a b : Expr} {t : TA2} {px py pt pos : Pos} {kt k2 pt2} (hij : i ≠ j) (h : PS X (.Assign [.Tuple [.Name x px, .Name y py] kt pt] (.Tuple [a, b] k2 pt2) pos) (tPar i j (lowA X.K Z t))) :
    S2 X Z (.Assign [.Tuple [.Name x px, .Name y py] kt pt] (.Tuple [a, b] k2 pt2) pos) (jPar [i, j] t) := by
  refine ps_imp h ?_
  rintro D σ H ⟨F, δ, μ, D2, m, q, e⟩
  refine ⟨F, δ, μ, _, m, q, ?_⟩
  rintro ds μ1 F1 H1 vs ⟨hl, q1⟩ g1 w1 r1
  obtain ⟨d1, d2, rfl⟩ : ∃ d1 d2, ds = [d1, d2] := by
    match ds, hl with
    | [d1, d2], _ => exact ⟨d1, d2, rfl⟩
  obtain ⟨v1, v2, rfl, ra, rb⟩ := r1.two
  have m1 := m.step g1 w1
  exact ⟨v1, v2, rfl, e.nx _ _ _ _ _ q1 g1 ⟨w1, (m1.env.set ra i).set rb j, m1.z⟩⟩
theorem Reps.three {K : PySem.W.Frag} {F : Hp} {vs : List V} {d e f : D} (r : Reps K F vs [d, e, f]) : ∃ v u w, vs = [v, u, w] ∧ Rep K F v d ∧ Rep K F u e ∧ Rep K F w f := by
  cases r with
  | cons r t =>
    cases t with
    | cons r2 t =>
      cases t with
      | cons r3 t => cases t; exact ⟨_, _, _, rfl, r, r2, r3⟩
theorem js_par3 {i j l : Nat} {x y z : Str} {a b c : Expr} {t : TA2} {px py pz pt pos : Pos} {kt k2 pt2} (h : PS X (.Assign [.Tuple [.Name x px, .Name y py, .Name z pz] kt pt] (.Tuple [a, b, c] k2 pt2) pos) (tPar3 i j l (lowA X.K Z t))) :
    S2 X Z (.Assign [.Tuple [.Name x px, .Name y py, .Name z pz] kt pt] (.Tuple [a, b, c] k2 pt2) pos) (jPar [i, j, l] t) := by
  refine ps_imp h ?_
  rintro D σ H ⟨F, δ, μ, D2, m, q, e⟩
  refine ⟨F, δ, μ, _, m, q, ?_⟩
  rintro ds μ1 F1 H1 vs ⟨hl, q1⟩ g1 w1 r1
  obtain ⟨d1, d2, d3, rfl⟩ : ∃ d1 d2 d3, ds = [d1, d2, d3] := by
    match ds, hl with
    | [d1, d2, d3], _ => exact ⟨d1, d2, d3, rfl⟩
  obtain ⟨v1, v2, v3, rfl, ra, rb, rc⟩ := r1.three
  have m1 := m.step g1 w1
  exact ⟨v1, v2, v3, rfl, e.nx _ _ _ _ _ q1 g1 ⟨w1, ((m1.env.set ra i).set rb j).set rc l, m1.z⟩⟩

/-! ### x += e -/
def jAug (i : Nat) (t : TE2) (r : O2) : TS2 := fun D δ μ => ∃ d, δ[i]? = some (some d) ∧ t δ μ fun e μ1 => r d e μ1 fun z μ2 => D.nx (δ.set i (some z)) μ2
def augI (g : Int → Int → Int) : O2
  | .int i, .int j, μ, Q => Q (.int (g i j)) μ
  | _, _, _, _ => False
theorem js_augI {i : Nat} {x : Str} {e : Expr} {t : TE2} {op : Operator} {pos' pos : Pos} {g : Int → Int → Int} (hN : X.N.Nodup) (hi : X.N[i]? = some x) (hx : Loc X.env.scope x) (he : E2 X Z e t) (ho : PIp X op (ipI g)) (hf : X.fn x = true ∨ X.env.scope.names.lookup x = some .local := by first | exact .inl rfl | exact .inr rfl | assumption) :
    S2 X Z (.AugAssign (.Name x pos') op e pos) (jAug i t (augI g)) := by
  refine ps_imp (ps_aug hN hi hx he ho hf) ?_
  rintro D σ H ⟨F, δ, μ, D2, m, ⟨d, hd, q⟩, e⟩
  obtain ⟨v, hv, rv⟩ := m.env.get hd
  refine ⟨v, hv, F, δ, μ, _, m, q, ?_⟩
  rintro y μ1 F1 H1 u q1 g1 w1 r1
  unfold augI at q1
  split at q1 <;> first | exact False.elim q1 | skip
  cases rv; cases r1
  have m1 := m.step g1 w1
  exact ⟨_, _, rfl, rfl, e.nx _ _ _ _ _ q1 g1 ⟨w1, m1.env.set .int i, m1.z⟩⟩
end
end J

namespace J
open PySem PySem.Spec PyProof.Rows L2
/-! ### the built-ins' names -/
theorem bb_len : bootBuiltins "len" = some (.builtin "len") := by decide +kernel
theorem bb_abs : bootBuiltins "abs" = some (.builtin "abs") := by decide +kernel
theorem bb_max : bootBuiltins "max" = some (.builtin "max") := by decide +kernel
theorem bb_min : bootBuiltins "min" = some (.builtin "min") := by decide +kernel
theorem bb_sum : bootBuiltins "sum" = some (.builtin "sum") := by decide +kernel
theorem bb_all : bootBuiltins "all" = some (.builtin "all") := by decide +kernel
theorem bb_sorted : bootBuiltins "sorted" = some (.builtin "sorted") := by decide +kernel
theorem bb_isinstance : bootBuiltins "isinstance" = some (.builtin "isinstance") := by decide +kernel
theorem bb_int : bootBuiltins "int" = some (.type "int") := by decide +kernel
theorem bb_bool : bootBuiltins "bool" = some (.type "bool") := by decide +kernel
theorem bb_str : bootBuiltins "str" = some (.type "str") := by decide +kernel
theorem bb_list : bootBuiltins "list" = some (.type "list") := by decide +kernel
theorem bb_tuple : bootBuiltins "tuple" = some (.type "tuple") := by decide +kernel
theorem bb_dict : bootBuiltins "dict" = some (.type "dict") := by decide +kernel
end J
namespace J
open PySem PySem.Spec PyProof.Rows L2
def rev1 : O1 := fun x μ Q => ∃ xs, SeqAt μ x xs ∧ NewL xs.reverse μ Q
/-! ### small words for readings -/
theorem w_true {A B : Prop} (h : A) : if true = true then A else B := by rw [if_pos rfl]; exact h
theorem w_false {A B : Prop} (h : B) : if false = true then A else B := by rw [if_neg Bool.false_ne_true]; exact h
theorem w_if {b : Bool} {A B : Prop} (h1 : b = true → A) (h2 : b = false → B) : if b = true then A else B := by
  cases b with
  | true => exact w_true (h1 rfl)
  | false => exact w_false (h2 rfl)
theorem w_ifd {c A B : Prop} [Decidable c] (h1 : c → A) (h2 : ¬ c → B) : if decide c = true then A else B := by
  by_cases h : c
  · rw [decide_eq_true h]; exact w_true (h1 h)
  · rw [decide_eq_false h]; exact w_false (h2 h)
theorem w_ifn {c A B : Prop} [Decidable c] (h1 : ¬ c → A) (h2 : c → B) : if (!decide c) = true then A else B := by
  by_cases h : c
  · rw [decide_eq_true h]; exact w_false (h2 h)
  · rw [decide_eq_false h]; exact w_true (h1 h)
theorem NewL.f {xs : List D} {μ : Mu} {Q : QE} (h : Q (.lst xs) μ) : NewL xs μ Q := .inl h
theorem NewL.m {xs : List D} {μ : Mu} {Q : QE} (h : ∀ p, μ p = none → Q (.ref p) (mup μ p (.lst xs))) : NewL xs μ Q := .inr h
theorem NewD.f {xs : List (Key × D)} {μ : Mu} {Q : QE} (h : Q (.dct xs) μ) : NewD xs μ Q := .inl h
theorem NewD.m {xs : List (Key × D)} {μ : Mu} {Q : QE} (h : ∀ p, μ p = none → Q (.ref p) (mup μ p (.dct xs))) : NewD xs μ Q := .inr h
end J

namespace J
open PySem PySem.Spec PyProof.Rows L2
section
variable {D0 : Ends2} {δ δ' : Sg} {μ : Mu} {Q : QE} {QB : Bool → Mu → Prop} {QA : List D → Mu → Prop} {QS : Sg → Mu → Prop} {d e : D} {i j : Int} {k : Nat}
theorem x_seq {t u : TS2} (h : t { nx := u D0, rt := D0.rt, bk := D0.bk, ct := D0.ct } δ μ) : jSeq t u D0 δ μ := h
theorem x_asg {t : TE2} {g : TG2} (h : t δ μ fun d μ1 => g d δ μ1 D0.nx) : jAsg t g D0 δ μ := h
theorem x_ret {t : TE2} (h : t δ μ D0.rt) : jRet t D0 δ μ := h
theorem x_retN (h : D0.rt .non μ) : jRetN D0 δ μ := h
theorem x_ifs {c : TT2} {t u : TS2} (h : c δ μ fun b μ1 => if b = true then t D0 δ μ1 else u D0 δ μ1) : jIfS c t u D0 δ μ := h
theorem x_next (h : D0.nx δ μ) : jNext D0 δ μ := h
theorem x_brk (h : D0.bk δ μ) : jBreak D0 δ μ := h
theorem x_cont (h : D0.ct δ μ) : jCont D0 δ μ := h
theorem x_drop {t : TE2} (h : t δ μ fun _ μ1 => D0.nx δ μ1) : jDrop t D0 δ μ := h
theorem x_name (e : δ.set k (some d) = δ') (h : QS δ' μ) : kName k d δ μ QS := by
  subst e
  exact h
theorem x_par {is : List Nat} {t : TA2} (h : t δ μ fun ds μ1 => ds.length = is.length ∧ D0.nx ((is.zip ds).foldl (fun δ p => δ.set p.1 (some p.2)) δ) μ1) : jPar is t D0 δ μ := h
theorem x_aug {t : TE2} {r : O2} (hd : δ[k]? = some (some d)) (h : t δ μ fun e μ1 => r d e μ1 fun z μ2 => D0.nx (δ.set k (some z)) μ2) : jAug k t r D0 δ μ := ⟨d, hd, h⟩
theorem x_augI {g : Int → Int → Int} (h : Q (.int (g i j)) μ) : augI g (.int i) (.int j) μ Q := h
theorem x_var (e : δ[k]? = some (some d)) (h : Q d μ) : jVar k δ μ Q := ⟨d, e, h⟩
theorem x_c (h : Q d μ) : jC d δ μ Q := h
theorem x_op {r : O2} {ta tb : TE2} (h : ta δ μ fun x μ1 => tb δ μ1 fun y μ2 => r x y μ2 Q) : jOp r ta tb δ μ Q := h
theorem x_un {r : O1} {ta : TE2} (h : ta δ μ fun x μ1 => r x μ1 Q) : jUn r ta δ μ Q := h
theorem x_test {t : TE2} (h : t δ μ fun x μ1 => ∃ k, x = .bl k ∧ QB k μ1) : jTest t δ μ QB := h
theorem x_blk {b : Bool} {R : Bool → Prop} (h : R b) : ∃ k, D.bl b = .bl k ∧ R k := ⟨b, rfl, h⟩
theorem x_chain {r r' : O2} {ta tb tc : TE2} (h : ta δ μ fun x μ1 => tb δ μ1 fun y μ2 => r x y μ2 fun z μ3 => ∃ k, z = .bl k ∧ (if k = true then tc δ μ3 fun w μ4 => r' y w μ4 Q else Q (.bl false) μ3)) : jChain r r' ta tb tc δ μ Q := h
theorem x_and {t u : TT2} (h : t δ μ fun c μ1 => if c = true then u δ μ1 QB else QB false μ1) : jAnd t u δ μ QB := h
theorem x_or {t u : TT2} (h : t δ μ fun c μ1 => if c = true then QB true μ1 else u δ μ1 QB) : jOr t u δ μ QB := h
theorem x_not {t : TT2} (h : t δ μ fun c μ1 => QB (!c) μ1) : jNot t δ μ QB := h
theorem x_andV {ta tb : TE2} (h : ta δ μ fun x μ1 => ∃ c, x = .bl c ∧ if c = true then tb δ μ1 Q else Q (.bl false) μ1) : jAndV ta tb δ μ Q := h
theorem x_orV {ta tb : TE2} (h : ta δ μ fun x μ1 => ∃ c, x = .bl c ∧ if c = true then Q (.bl true) μ1 else tb δ μ1 Q) : jOrV ta tb δ μ Q := h
theorem x_notV {ta : TE2} (h : ta δ μ fun x μ1 => ∃ c, x = .bl c ∧ Q (.bl (!c)) μ1) : jNotV ta δ μ Q := h
theorem x_if {t : TT2} {ta tb : TE2} (h : t δ μ fun c μ1 => if c = true then ta δ μ1 Q else tb δ μ1 Q) : jIf t ta tb δ μ Q := h
theorem x_nil (h : QA [] μ) : jNil δ μ QA := h
theorem x_cons {ta : TE2} {tr : TA2} (h : ta δ μ fun x μ1 => tr δ μ1 fun xs μ2 => QA (x :: xs) μ2) : jCons ta tr δ μ QA := h
theorem x_tup {t : TA2} (h : t δ μ fun xs μ1 => xs.length ≤ sizeLine ∧ Q (.tup xs) μ1) : jTup t δ μ Q := h
theorem x_lst {t : TA2} (h : t δ μ fun xs μ1 => xs.length ≤ sizeLine ∧ NewL xs μ1 Q) : jLst t δ μ Q := h
theorem x_cb {r : OA} {t : TA2} (h : t δ μ fun ds μ1 => r ds μ1 Q) : jCB r t δ μ Q := h
theorem x_call {sp : Sp2} {dds : List D} {ex : Ex2} {t : TA2} (h : t δ μ fun ds μ1 => sp (ds ++ dds) μ1 (Upd Q) ex) : jCall sp dds ex t δ μ Q := h
theorem x_bm0 {T : String} {r : OM} {t : TE2} (h : t δ μ fun x μ1 => TyM T x μ1 ∧ r x [] μ1 Q) : jBM0 T r t δ μ Q := h
theorem x_bm {T : String} {r : OM} {to : TE2} {t : TA2} (h : to δ μ fun x μ1 => TyM T x μ1 ∧ t δ μ1 fun ds μ2 => r x ds μ2 Q) : jBM T r to t δ μ Q := h
theorem x_sl {te : TE2} {tl th : TO2} (h : te δ μ fun x μ1 => tl δ μ1 fun l μ2 => th δ μ2 fun u μ3 => sl2 x l u μ3 Q) : jSl te tl th δ μ Q := h
theorem x_nopart {QO : Option Int → Mu → Prop} (h : QO none μ) : jNoPart δ μ QO := h
theorem x_part {QO : Option Int → Mu → Prop} {te : TE2} (h : te δ μ fun x μ1 => ∃ i, x = .int i ∧ QO (some i) μ1) : jPart te δ μ QO := h
theorem x_parti {R : Int → Prop} (h : R i) : ∃ k, D.int i = .int k ∧ R k := ⟨i, rfl, h⟩
theorem x_sub {to ti : TE2} (h : to δ μ fun o μ1 => ti δ μ1 fun i μ2 => set2 o i d μ2 fun μ3 => QS δ μ3) : kSub to ti d δ μ QS := h
theorem x_for {ti : TI2} {g : TG2} {tb : TS2} (h : ti δ μ fun items G μ1 => jLoop g tb G D0 items δ μ1) : jFor ti g tb D0 δ μ := h
theorem x_lc {ti : TI2} {g : TG2} {tt : TT2} {te : TE2} {vs : List Nat} (h : ti δ μ fun items G μ1 => jLcl g tt te (wipeD δ vs) G (fun acc μ' => NewL acc μ' Q) items [] μ1) : jLc ti g tt te vs δ μ Q := h
theorem x_yes (h : QB true μ) : jYes δ μ QB := h
theorem x_disp {trs : List (TE2 × TE2)} (h : jPairs trs δ μ fun ps μ1 => ∃ kvs, keysOf ps = some kvs ∧ kvs.length ≤ 15 ∧ NewD (mergeD [] kvs) μ1 Q) : jDisp trs δ μ Q := h
theorem x_pairs0 {QP : List (D × D) → Mu → Prop} (h : QP [] μ) : jPairs [] δ μ QP := h
theorem x_pairs {QP : List (D × D) → Mu → Prop} {tk tv : TE2} {r : List (TE2 × TE2)} (h : tk δ μ fun x μ1 => tv δ μ1 fun y μ2 => jPairs r δ μ2 fun ps μ3 => QP ((x, y) :: ps) μ3) : jPairs ((tk, tv) :: r) δ μ QP := h
theorem x_dnew (h : NewD [] μ Q) : jDnew δ μ Q := h
/-! ### operations -/
theorem x_add (h : Q (.int (i + j)) μ) : add2 (.int i) (.int j) μ Q := h
theorem x_addS {x y : Str} (hl : x.length + y.length ≤ sizeLine) (h : Q (.str (x ++ y)) μ) : add2 (.str x) (.str y) μ Q := ⟨hl, h⟩
theorem x_addT {xs ys : List D} (hl : xs.length + ys.length ≤ sizeLine) (h : Q (.tup (xs ++ ys)) μ) : add2 (.tup xs) (.tup ys) μ Q := ⟨hl, h⟩
theorem x_addL {xs ys : List D} (hl : xs.length + ys.length ≤ sizeLine) (h : NewL (xs ++ ys) μ Q) : add2 (.lst xs) (.lst ys) μ Q := ⟨xs, ys, .f, .f, hl, h⟩
theorem x_addM {a : Addr} {xs ys : List D} (ha : μ a = some (.lst xs)) (hl : xs.length + ys.length ≤ sizeLine) (h : NewL (xs ++ ys) μ Q) : add2 (.ref a) (.lst ys) μ Q := ⟨xs, ys, .m ha, .f, hl, h⟩
theorem x_subI (h : Q (.int (i - j)) μ) : sub2 (.int i) (.int j) μ Q := h
theorem x_mul (hc : CMul i j ∨ CMulW i j) (h : Q (.int (i * j)) μ) : mul2 (.int i) (.int j) μ Q := ⟨hc, h⟩
theorem x_int2 {C : Int → Int → Prop} {g : Int → Int → D} (hc : C i j) (h : Q (g i j) μ) : int2 C g (.int i) (.int j) μ Q := ⟨hc, h⟩
theorem x_mulR (hj : -(2 ^ 64) < j ∧ j < 2 ^ 64) (h : Q (.int (i * j)) μ) : mul2 (.int i) (.int j) μ Q := ⟨.inl (.inr hj), h⟩
theorem x_mulL (hj : -(2 ^ 64) < i ∧ i < 2 ^ 64) (h : Q (.int (i * j)) μ) : mul2 (.int i) (.int j) μ Q := ⟨.inl (.inl hj), h⟩
theorem x_mod (hj : 0 < j) (h : Q (.int (i % j)) μ) : mod2 (.int i) (.int j) μ Q := ⟨hj, h⟩
theorem x_fdiv (hj : 0 < j) (hb : j.natAbs.log2 < 9000) (h : Q (.int (i / j)) μ) : fdiv2 (.int i) (.int j) μ Q := ⟨⟨hj, hb⟩, h⟩
theorem x_shr (hj : 0 ≤ j) (h : Q (.int (i / 2 ^ j.toNat)) μ) : shr2 (.int i) (.int j) μ Q := ⟨hj, h⟩
theorem x_pow (hj : 0 ≤ j ∧ j ≤ 1000000 ∧ i.natAbs < 2 ^ 64) (h : Q (.int (i ^ j.toNat)) μ) : pow2 (.int i) (.int j) μ Q := ⟨hj, h⟩
theorem atI_some {xs : List D} {k : Nat} {d : D} (h : xs[k]? = some d) : atI xs (k : Int) = some d := atI_nat h
theorem ixN_nat {n k : Nat} (h : k < n) : ixN n (k : Int) = some k := by
  unfold ixN
  rw [if_pos (by omega), if_pos (by omega)]
  simp
theorem x_neg (h : Q (.int (-i)) μ) : neg1 (.int i) μ Q := h
theorem x_cmp {ci : Int → Int → Bool} {cs : Str → Str → Bool} (h : Q (.bl (ci i j)) μ) : cmp2 ci cs (.int i) (.int j) μ Q := h
theorem x_cmpS {ci : Int → Int → Bool} {cs : Str → Str → Bool} {x y : Str} (h : Q (.bl (cs x y)) μ) : cmp2 ci cs (.str x) (.str y) μ Q := h
theorem x_eqI (h : Q (.bl (decide (i = j))) μ) : eq2 (.int i) (.int j) μ Q := h
theorem x_eqS {x y : Str} (h : Q (.bl (decide (x = y))) μ) : eq2 (.str x) (.str y) μ Q := h
theorem x_eqB {x y : Bool} (h : Q (.bl (decide (x = y))) μ) : eq2 (.bl x) (.bl y) μ Q := h
theorem x_neI (h : Q (.bl (!decide (i = j))) μ) : ne2 (.int i) (.int j) μ Q := h
theorem x_neS {x y : Str} (h : Q (.bl (!decide (x = y))) μ) : ne2 (.str x) (.str y) μ Q := h
theorem x_neB {x y : Bool} (h : Q (.bl (!decide (x = y))) μ) : ne2 (.bl x) (.bl y) μ Q := h
theorem x_ixL {xs : List D} (e : atI xs i = some d) (h : Q d μ) : ix2 (.lst xs) (.int i) μ Q := .inl ⟨xs, i, d, .inl .f, rfl, e, h⟩
theorem x_ixR {xs : List D} (e : atI xs i = some d) (h : Q d μ) : ix2 (.rol xs) (.int i) μ Q := .inl ⟨xs, i, d, .inl .r, rfl, e, h⟩
theorem x_ixT {xs : List D} (e : atI xs i = some d) (h : Q d μ) : ix2 (.tup xs) (.int i) μ Q := .inl ⟨xs, i, d, .inr rfl, rfl, e, h⟩
theorem x_ixM {a : Addr} {xs : List D} (ha : μ a = some (.lst xs)) (e : atI xs i = some d) (h : Q d μ) : ix2 (.ref a) (.int i) μ Q := .inl ⟨xs, i, d, .inl (.m ha), rfl, e, h⟩
theorem x_ixS {z : Str} {c : Nat} (hl : z.length ≤ sizeLine) (e : atI z.cps.toList i = some c) (h : Q (.str ⟨#[c]⟩) μ) : ix2 (.str z) (.int i) μ Q := .inr (.inl ⟨z, i, c, rfl, rfl, hl, e, h⟩)
theorem x_ixD {kvs : List (Key × D)} {x : D} {kk : Key} (e1 : keyD x = some kk) (e : valD kvs kk = some d) (h : Q d μ) : ix2 (.dct kvs) x μ Q := .inr (.inr ⟨kvs, kk, d, .f, e1, e, h⟩)
theorem x_ixDM {a : Addr} {kvs : List (Key × D)} {x : D} {kk : Key} (ha : μ a = some (.dct kvs)) (e1 : keyD x = some kk) (e : valD kvs kk = some d) (h : Q d μ) : ix2 (.ref a) x μ Q := .inr (.inr ⟨kvs, kk, d, .m ha, e1, e, h⟩)
theorem x_setL {a : Addr} {xs : List D} {n : Nat} {QM : Mu → Prop} (ha : μ a = some (.lst xs)) (e1 : ixN xs.length i = some n) (h : QM (mup μ a (.lst (xs.set n d)))) : set2 (.ref a) (.int i) d μ QM := .inl ⟨a, xs, i, n, rfl, rfl, ha, e1, h⟩
theorem x_setD {a : Addr} {kvs : List (Key × D)} {x : D} {kk : Key} {QM : Mu → Prop} (ha : μ a = some (.dct kvs)) (e1 : keyD x = some kk) (hl : kvs.length < sizeLine) (h : QM (mup μ a (.dct (putKD kvs kk d)))) : set2 (.ref a) x d μ QM := .inr ⟨a, kvs, kk, rfl, e1, ha, hl, h⟩
theorem x_lenL {xs : List D} (h : Q (.int xs.length) μ) : len1 [.lst xs] μ Q := h
theorem x_lenR {xs : List D} (h : Q (.int xs.length) μ) : len1 [.rol xs] μ Q := h
theorem x_lenT {xs : List D} (h : Q (.int xs.length) μ) : len1 [.tup xs] μ Q := h
theorem x_lenD {xs : List (Key × D)} (h : Q (.int xs.length) μ) : len1 [.dct xs] μ Q := h
theorem x_lenS {z : Str} (hl : z.length ≤ sizeLine) (h : Q (.int z.length) μ) : len1 [.str z] μ Q := ⟨hl, h⟩
theorem x_lenM {a : Addr} {xs : List D} (ha : μ a = some (.lst xs)) (h : Q (.int xs.length) μ) : len1 [.ref a] μ Q := .inl ⟨xs, ha, h⟩
theorem x_int (h : Q (.int i) μ) : int1 [.int i] μ Q := h
theorem x_intB {b : Bool} (h : Q (.int (if b then 1 else 0)) μ) : int1 [.bl b] μ Q := h
theorem x_listL {xs : List D} (h : NewL xs μ Q) : list1 [.lst xs] μ Q := h
theorem x_listR {xs : List D} (h : NewL xs μ Q) : list1 [.rol xs] μ Q := h
theorem x_listT {xs : List D} (h : NewL xs μ Q) : list1 [.tup xs] μ Q := h
theorem x_listM {a : Addr} {xs : List D} (ha : μ a = some (.lst xs)) (h : NewL xs μ Q) : list1 [.ref a] μ Q := .inl ⟨xs, ha, h⟩
theorem x_listD {xs : List (Key × D)} (h : NewL (xs.map fun kv => keyV kv.1) μ Q) : list1 [.dct xs] μ Q := h
theorem x_listDM {a : Addr} {xs : List (Key × D)} (ha : μ a = some (.dct xs)) (h : NewL (xs.map fun kv => keyV kv.1) μ Q) : list1 [.ref a] μ Q := .inr ⟨xs, ha, h⟩
theorem x_tupleL {xs : List D} (h : Q (.tup xs) μ) : tuple1 [.lst xs] μ Q := h
theorem x_tupleT {xs : List D} (h : Q (.tup xs) μ) : tuple1 [.tup xs] μ Q := h
theorem x_tupleM {a : Addr} {xs : List D} (ha : μ a = some (.lst xs)) (h : Q (.tup xs) μ) : tuple1 [.ref a] μ Q := ⟨xs, ha, h⟩
theorem x_abs (h : Q (.int (if i < 0 then -i else i)) μ) : abs1 [.int i] μ Q := h
theorem x_max (h : Q (.int (if j > i then j else i)) μ) : max1 [.int i, .int j] μ Q := h
theorem x_min (h : Q (.int (if j < i then j else i)) μ) : min1 [.int i, .int j] μ Q := h
theorem x_isi {T t : Ty} {n : String} (e : n = T.nm) (e2 : tyD μ d = some t) (h : Q (.bl (isTy t T)) μ) : isi T [d, .ty n] μ Q := ⟨e, t, e2, h⟩
theorem x_append {a : Addr} {xs : List D} (ha : μ a = some (.lst xs)) (hl : xs.length < sizeLine) (h : Q .non (mup μ a (.lst (xs ++ [d])))) : append1 (.ref a) [d] μ Q := ⟨xs, ha, hl, h⟩
theorem x_pop {a : Addr} {xs : List D} (ha : μ a = some (.lst (xs ++ [d]))) (h : Q d (mup μ a (.lst xs))) : pop1 (.ref a) [] μ Q := ⟨xs ++ [d], d, ha, by simp, by rw [List.dropLast_concat]; exact h⟩
theorem x_tyM {a : Addr} {xs : List D} {A : Prop} (ha : μ a = some (.lst xs)) (h : A) : TyM "list" (.ref a) μ ∧ A := ⟨.inl ⟨rfl, xs, ha⟩, h⟩
theorem x_tyMD {a : Addr} {xs : List (Key × D)} {A : Prop} (ha : μ a = some (.dct xs)) (h : A) : TyM "dict" (.ref a) μ ∧ A := ⟨.inr ⟨rfl, xs, ha⟩, h⟩
theorem x_isB {b c : Bool} (h : Q (.bl (decide (b = c))) μ) : is2 false (.bl b) (.bl c) μ Q := by
  show Q (.bl (false ^^ decide (b = c))) μ
  rw [Bool.false_xor]; exact h
theorem x_isnB {b c : Bool} (h : Q (.bl (!decide (b = c))) μ) : is2 true (.bl b) (.bl c) μ Q := by
  show Q (.bl (true ^^ decide (b = c))) μ
  rw [Bool.true_xor]; exact h
theorem x_iL {t : TE2} {R : List D → (Mu → Prop) → Mu → Prop} (h : t δ μ fun x μ1 => iSeq' x μ1 R) : iL t δ μ R := h
theorem x_iLf {xs : List D} {R : List D → (Mu → Prop) → Mu → Prop} (h : R xs (fun _ => True) μ) : iSeq' (.lst xs) μ R := h
theorem x_iLr {xs : List D} {R : List D → (Mu → Prop) → Mu → Prop} (h : R xs (fun _ => True) μ) : iSeq' (.rol xs) μ R := h
theorem x_iT {t : TE2} {R : List D → (Mu → Prop) → Mu → Prop} (h : t δ μ fun x μ1 => ∃ xs, x = .tup xs ∧ R xs (fun _ => True) μ1) : iT t δ μ R := h
theorem x_iTf {xs : List D} {R : List D → Prop} (h : R xs) : ∃ ys, D.tup xs = .tup ys ∧ R ys := ⟨xs, rfl, h⟩
theorem x_iR1 {t : TA2} {R : List D → (Mu → Prop) → Mu → Prop} (h : t δ μ fun ds μ1 => ∃ j, ds = [.int j] ∧ rngOk j ∧ R (rngD 0 j.toNat) (fun _ => True) μ1) : iR1 t δ μ R := h
theorem x_iR2 {t : TA2} {R : List D → (Mu → Prop) → Mu → Prop} (h : t δ μ fun ds μ1 => ∃ i j, ds = [.int i, .int j] ∧ rngOk i ∧ rngOk j ∧ R (rngD i (j - i).toNat) (fun _ => True) μ1) : iR2 t δ μ R := h
/-- a loop by what holds between its turns -/
theorem loop_inv {g : TG2} {tb : TS2} {G : Mu → Prop} {D1 : Ends2} (P : List D → Sg → Mu → Prop) (hG : ∀ r δ μ, P r δ μ → G μ)
    (hs : ∀ x r δ μ, P (x :: r) δ μ → ∀ QN : Sg → Mu → Prop, (∀ δ' μ', P r δ' μ' → QN δ' μ') → g x δ μ fun δ' μ' => tb { nx := QN, rt := D1.rt, bk := D1.nx, ct := QN } δ' μ')
    (hd : ∀ δ μ, P [] δ μ → D1.nx δ μ) : ∀ (xs : List D) (δ : Sg) (μ : Mu), P xs δ μ → jLoop g tb G D1 xs δ μ
  | [], δ, μ, p => ⟨hG _ _ _ p, hd δ μ p⟩
  | x :: r, δ, μ, p => ⟨hG _ _ _ p, hs x r δ μ p _ fun δ' μ' p' => loop_inv P hG hs hd r δ' μ' p'⟩
/-- a comprehension by what holds between its turns -/
theorem lc_inv {g : TG2} {tt : TT2} {te : TE2} {δ0 : Sg} {G : Mu → Prop} {k : List D → Mu → Prop} (P : List D → List D → Mu → Prop) (hG : ∀ r acc μ, P r acc μ → G μ)
    (hs : ∀ x r acc μ, P (x :: r) acc μ → ∀ N : List D → Mu → Prop, (∀ acc' μ', P r acc' μ' → N acc' μ') → g x δ0 μ fun δ1 μ1 => tt δ1 μ1 fun b μ2 => if b = true then te δ1 μ2 fun y μ3 => acc.length < sizeLine ∧ N (acc ++ [y]) μ3 else N acc μ2)
    (hd : ∀ acc μ, P [] acc μ → k acc μ) : ∀ (xs acc : List D) (μ : Mu), P xs acc μ → jLcl g tt te δ0 G k xs acc μ
  | [], acc, μ, p => ⟨hG _ _ _ p, hd acc μ p⟩
  | x :: r, acc, μ, p => ⟨hG _ _ _ p, hs x r acc μ p (fun acc' μ' => jLcl g tt te δ0 G k r acc' μ') fun acc' μ' p' => lc_inv P hG hs hd r acc' μ' p'⟩
/-- whose turns change nothing: f tells each item's element, if there is one -/
theorem lc_fm {g : TG2} {tt : TT2} {te : TE2} {δ0 : Sg} {k : List D → Mu → Prop} {μ : Mu} (f : D → Option D) (xs : List D) (hl : xs.length < sizeLine)
    (hs : ∀ x ∈ xs, ∀ (Y : D → Mu → Prop) (Nn : Mu → Prop), (∀ y, f x = some y → Y y μ) → (f x = none → Nn μ) → g x δ0 μ fun δ1 μ1 => tt δ1 μ1 fun b μ2 => if b = true then te δ1 μ2 Y else Nn μ2)
    (hd : k (xs.filterMap f) μ) : jLcl g tt te δ0 (fun _ => True) k xs [] μ := by
  refine lc_inv (fun r acc μ' => μ' = μ ∧ acc ++ r.filterMap f = xs.filterMap f ∧ acc.length + r.length ≤ xs.length ∧ ∀ x ∈ r, x ∈ xs) (fun _ _ _ _ => trivial) ?_ ?_ xs [] μ ⟨rfl, rfl, by simp, fun _ h => h⟩
  · rintro x r acc μ' ⟨rfl, he, hz, hm⟩ N hN
    refine hs x (hm x (List.mem_cons_self ..)) _ _ (fun y hy => ⟨?_, hN _ _ ⟨rfl, ?_, ?_, ?_⟩⟩) (fun hn => hN _ _ ⟨rfl, ?_, ?_, ?_⟩)
    · simp only [List.length_cons] at hz; omega
    · rw [List.filterMap_cons, hy] at he
      rw [← he]
      simp
    · simp only [List.length_cons, List.length_append, List.length_nil] at hz ⊢; omega
    · exact fun z hz' => hm z (List.mem_cons_of_mem _ hz')
    · rw [List.filterMap_cons, hn] at he
      exact he
    · simp only [List.length_cons] at hz ⊢; omega
    · exact fun z hz' => hm z (List.mem_cons_of_mem _ hz')
  · rintro acc μ' ⟨rfl, he, _, _⟩
    have e2 : acc = xs.filterMap f := by simpa using he
    rw [e2]
    exact hd
/-- .. one element an item -/
theorem lc_map {g : TG2} {te : TE2} {δ0 : Sg} {k : List D → Mu → Prop} {μ : Mu} (f : D → D) (xs : List D) (hl : xs.length < sizeLine)
    (hs : ∀ x ∈ xs, ∀ Y : D → Mu → Prop, Y (f x) μ → g x δ0 μ fun δ1 μ1 => te δ1 μ1 Y) (hd : k (xs.map f) μ) : jLcl g jYes te δ0 (fun _ => True) k xs [] μ := by
  refine lc_inv (fun r acc μ' => μ' = μ ∧ acc ++ r.map f = xs.map f ∧ acc.length + r.length ≤ xs.length ∧ ∀ x ∈ r, x ∈ xs) (fun _ _ _ _ => trivial) ?_ ?_ xs [] μ ⟨rfl, rfl, by simp, fun _ h => h⟩
  · rintro x r acc μ' ⟨rfl, he, hz, hm⟩ N hN
    have h := hs x (hm x (List.mem_cons_self ..)) (fun y μ3 => acc.length < sizeLine ∧ N (acc ++ [y]) μ3) ⟨by simp only [List.length_cons] at hz; omega, hN _ _ ⟨rfl, by rw [← he]; simp, by simp only [List.length_cons, List.length_append, List.length_nil] at hz ⊢; omega, fun z hz' => hm z (List.mem_cons_of_mem _ hz')⟩⟩
    exact h
  · rintro acc μ' ⟨rfl, he, _, _⟩
    have e2 : acc = xs.map f := by simpa using he
    rw [e2]
    exact hd
end
end J

namespace J
open PySem PySem.Spec PyProof.Rows L2
/-! ### the head's hook, with a check of one's own; the law's start -/
abbrev AlJ : Type := He.AlD × Bool
def obsJ (n : Nat) (fa : List He.Fa) (fn : List He.DefD) (ex : PySem.W.Frag → Bool) (g : Addr → Option Obj) : AlJ := (He.obsDG n fa fn g, ex (He.frG g (He.asD g n)))
def hookJ (n : Nat) (fa : List He.Fa) (fn : List He.DefD) (ex : PySem.W.Frag → Bool) : PySem.W.Hook where
  α := AlJ
  obs := fun s => obsJ n fa fn ex s.heap.get?
  val := fun _ => (He.valD fn, true)
  says := fun _ h => ∃ K : PySem.W.Frag, K.In h ∧ He.SaysD fa fn K ∧ ex K = true
  of := fun _ _ e => ⟨_, He.frG_in, congrArg (fun z : AlJ => z.1) e, congrArg (fun z : AlJ => z.2) e⟩
  keeps := fun _ _ _ ⟨K, hK, c⟩ k => ⟨K, PySem.W.Frag.In.keeps hK k, c⟩
theorem obsJ_eq {n : Nat} {fa : List He.Fa} {fn : List He.DefD} {ex : PySem.W.Frag → Bool} {g : Addr → Option Obj} {s : Shared} (h : ∀ a, g a = s.heap.get? a) : obsJ n fa fn ex g = (hookJ n fa fn ex).obs s := by
  have e : g = s.heap.get? := funext h
  rw [e] <;> rfl
theorem never {P : Program} {w : World} {K : PySem.W.Frag} {mg : Str → Option Value} {base : Heap} {CX : CXT} {k : Nat} {f : Addr} {fd : FuncData} {ps : List Str} : FnOk P w K mg base CX k f fd ps (lowSp K fun _ _ _ _ => False) :=
  ⟨fun _ _ _ _ ⟨_, _, _, _, _, _, _, q, _⟩ => q.elim, fun _ _ _ _ _ _ _ _ _ _ _ _ _ ⟨_, _, _, _, _, _, _, q, _⟩ => q.elim⟩
def Start (sp : Sp2) : Prop := ∀ (ns : List Int) (μ : Mu) (Q : QE), ns.length ≤ 63 → (∀ μ', Q (.bl true) μ') → sp [.rol (ns.map D.int)] μ Q noEx
theorem ints_rep {K : PySem.W.Frag} {F : Hp} : ∀ ns : List Int, Reps K F (ns.map V.int) (ns.map D.int)
  | [] => .nil
  | _ :: r => .cons .int (ints_rep r)
theorem low_start {K : PySem.W.Frag} {sp : Sp2} (st : Start sp) (H : Hp) (a : Addr) (ns : List Int) (hl : ns.length ≤ 63) (hS : SqL K H a (ns.map V.int)) : lowSp K sp [.ref a] H (fun v _ => v = .bl true) fun _ _ _ => False := by
  refine ⟨H, fun _ => none, [.rol (ns.map D.int)], fun d _ => d = .bl true, noEx, ⟨Same.refl _, fun _ _ h => nomatch h⟩, .cons (.rol hS (ints_rep ns)) .nil, st ns _ _ hl fun _ => rfl, ?_, ZE.none⟩
  intro d μ' F' H' v hd _ _ r
  subst hd
  cases r
  rfl
theorem glo_tup {K : PySem.W.Frag} {h : Heap} {mg : Str → Option Value} {x : Str} {vs : List He.Dv} {ds : List D} (X : K.In h) (G : h.Ns mainGlobals mg) (c : (He.Fa.glo x).ok K = true) (t : He.tupB K x vs = true) (r : ∀ F, Reps K F (vs.map (He.Dv.v K)) ds) :
    ∃ (v : V) (u : Value), mg x = some u ∧ RelV v u ∧ ∀ F, Rep K F v (.tup ds) := ⟨.ref (He.ga K x), .ref (He.ga K x), He.glo_ok X G c, by constructor, fun F => .tup (He.tupB_ok t F) (r F)⟩
theorem glo_int {K : PySem.W.Frag} {h : Heap} {mg : Str → Option Value} {x : Str} {i : Int} (X : K.In h) (G : h.Ns mainGlobals mg) (c : (He.Fa.int x i).ok K = true) : ∃ (v : V) (u : Value), mg x = some u ∧ RelV v u ∧ ∀ F, Rep K F v (.int i) := by
  obtain ⟨t, e⟩ := He.int_ok X G c
  exact ⟨.int i, _, e, ⟨t, rfl⟩, fun _ => .int⟩
theorem glo_str {K : PySem.W.Frag} {h : Heap} {mg : Str → Option Value} {x z : Str} (X : K.In h) (G : h.Ns mainGlobals mg) (c : (He.Fa.str x z).ok K = true) : ∃ (v : V) (u : Value), mg x = some u ∧ RelV v u ∧ ∀ F, Rep K F v (.str z) := by
  obtain ⟨t, e⟩ := He.str_ok X G c
  exact ⟨.str z, _, e, ⟨t, rfl⟩, fun _ => .str⟩
end J

namespace J
open PySem PySem.Spec PyProof.Rows L2
section
variable {D0 : Ends2} {δ δ' : Sg} {μ : Mu} {Q : QE} {d e x y : D} {i j : Int} {k : Nat} {kvs : List (Key × D)} {kk : Key}
theorem x_ixDA (ha : DctAt μ x kvs) (e1 : keyD y = some kk) (e : valD kvs kk = some d) (h : Q d μ) : ix2 x y μ Q := .inr (.inr ⟨kvs, kk, d, ha, e1, e, h⟩)
theorem x_listDA (ha : DctAt μ x kvs) (h : NewL (kvs.map fun kv => keyV kv.1) μ Q) : list1 [x] μ Q := by
  rcases ha with rfl | ⟨a, rfl, ha⟩
  · exact h
  · exact .inr ⟨_, ha, h⟩
theorem x_dictDA (ha : DctAt μ x kvs) (h : NewD kvs μ Q) : dict1 [x] μ Q := ⟨kvs, ha, h⟩
theorem x_lenDA (ha : DctAt μ x kvs) (h : Q (.int kvs.length) μ) : len1 [x] μ Q := by
  rcases ha with rfl | ⟨a, rfl, ha⟩
  · exact h
  · exact .inr ⟨_, ha, h⟩
theorem x_inL {xs : List D} (h1 : x.fl = true) (h2 : xs.all D.fl = true) (h : Q (.bl (inF x xs)) μ) : in2 false x (.lst xs) μ Q := .inl ⟨xs, .inl .f, h1, h2, by rw [Bool.false_xor]; exact h⟩
theorem x_ninL {xs : List D} (h1 : x.fl = true) (h2 : xs.all D.fl = true) (h : Q (.bl (!inF x xs)) μ) : in2 true x (.lst xs) μ Q := .inl ⟨xs, .inl .f, h1, h2, by rw [Bool.true_xor]; exact h⟩
theorem fl_bls (bs : List Bool) : (bs.map D.bl).all D.fl = true := by simp [List.all_eq_true, D.fl]
theorem inF_bls (bs : List Bool) : inF (.bl false) (bs.map D.bl) = !bs.all id := by
  induction bs with
  | nil => rfl
  | cons b r ih =>
    have e : inF (.bl false) ((b :: r).map D.bl) = ((b == false) || inF (.bl false) (r.map D.bl)) := rfl
    rw [e, ih]
    cases b <;> simp
theorem x_inB {bs : List Bool} (h : Q (.bl (!bs.all id)) μ) : in2 false (.bl false) (.lst (bs.map D.bl)) μ Q := x_inL rfl (fl_bls bs) (by rw [inF_bls]; exact h)
theorem x_ninB {bs : List Bool} (h : Q (.bl (bs.all id)) μ) : in2 true (.bl false) (.lst (bs.map D.bl)) μ Q := x_ninL rfl (fl_bls bs) (by rw [inF_bls, Bool.not_not]; exact h)
theorem x_maxL {ns : List Int} (h0 : 0 < ns.length) (h : ∀ m, m ∈ ns → (∀ y, y ∈ ns → y ≤ m) → Q (.int m) μ) : max1 [.lst (ns.map D.int)] μ Q := ⟨ns, .f, h0, h⟩
theorem x_minL {ns : List Int} (h0 : 0 < ns.length) (h : ∀ m, m ∈ ns → (∀ y, y ∈ ns → m ≤ y) → Q (.int m) μ) : min1 [.lst (ns.map D.int)] μ Q := ⟨ns, .f, h0, h⟩
/-! ### sorted lists of words are told by their items -/
def leS (a b : Str) : Prop := a.cps.toList ≤ b.cps.toList
theorem leS_of {a b : Str} (h : ltCps b.cps.toList a.cps.toList = false) : leS a b := by
  rw [ltCps_eq, decide_eq_false_iff_not] at h
  exact List.not_lt.mp h
theorem leS_anti {a b : Str} (h : leS a b) (h2 : leS b a) : a = b := by
  have e := List.le_antisymm h h2
  obtain ⟨⟨a⟩⟩ := a
  obtain ⟨⟨b⟩⟩ := b
  simp only at e
  rw [e]
theorem leS_trans {a b c : Str} (h : leS a b) (h2 : leS b c) : leS a c := List.le_trans h h2
theorem risingS_pw : ∀ (l : List Str) (p : Str), risingS p l = true → (p :: l).Pairwise leS
  | [], p, _ => by simp
  | x :: r, p, h => by
    simp only [risingS, Bool.and_eq_true, Bool.not_eq_true'] at h
    have ih := risingS_pw r x h.2
    refine List.pairwise_cons.mpr ⟨fun y hy => ?_, ih⟩
    rcases List.mem_cons.mp hy with rfl | hm
    · exact leS_of h.1
    · exact leS_trans (leS_of h.1) ((List.pairwise_cons.mp ih).1 y hm)
theorem sortedS_pw : ∀ l : List Str, sortedS l = true → l.Pairwise leS
  | [], _ => .nil
  | x :: r, h => risingS_pw r x h
theorem sorted_one {xs ys : List Str} (hp : ys.Perm xs) (h : sortedS ys = true) (h2 : sortedS xs = true) : ys = xs :=
  hp.eq_of_pairwise (fun _ _ _ _ a b => leS_anti a b) (sortedS_pw ys h) (sortedS_pw xs h2)
theorem x_sortedS {ss xs : List Str} (hl : ss.length < 64) (hp : xs.Perm ss) (hs : sortedS xs = true) (h : NewL (xs.map D.str) μ Q) : sorted1 [.lst (ss.map D.str)] μ Q :=
  .inr ⟨ss, .f, hl, fun ys h1 h2 => by rw [sorted_one (h1.trans hp.symm) h2 hs]; exact h⟩
theorem sortZ_one {xs ys : List Int} (hp : ys.Perm xs) (h : ys.Pairwise (· ≤ ·)) (h2 : xs.Pairwise (· ≤ ·)) : ys = xs :=
  hp.eq_of_pairwise (fun _ _ _ _ a b => Int.le_antisymm a b) h h2
theorem x_sortedZ {ss xs : List Int} (hp : xs.Perm ss) (hs : xs.Pairwise (· ≤ ·)) (h : NewL (xs.map D.int) μ Q) : sorted1 [.lst (ss.map D.int)] μ Q :=
  .inl ⟨ss, .f, fun ys h1 h2 => by rw [sortZ_one (h1.trans hp.symm) h2 hs]; exact h⟩
/-! ### tables by their keys -/
theorem valD_put_same {v : D} : valD (putKD kvs kk v) kk = some v := by
  unfold putKD
  induction kvs with
  | nil => simp [valD]
  | cons p r ih =>
    by_cases h : p.1 = kk
    · simp [List.any_cons, h, valD]
    · by_cases h2 : (r.any fun kv => decide (kv.1 = kk)) = true
      · rw [if_pos (by simp [List.any_cons, h, h2])]
        rw [if_pos h2] at ih
        rw [List.map_cons, if_neg h, valD_neg h]
        exact ih
      · rw [if_neg (by simp [List.any_cons, h] at h2 ⊢; exact h2)]
        rw [if_neg h2] at ih
        rw [List.cons_append, valD_neg h]
        exact ih
theorem valD_put_ne {v : D} {k2 : Key} (hne : k2 ≠ kk) : valD (putKD kvs kk v) k2 = valD kvs k2 := by
  unfold putKD
  induction kvs with
  | nil => simp [valD, Ne.symm hne]
  | cons p r ih =>
    by_cases h : p.1 = kk
    · rw [if_pos (by simp [List.any_cons, h])]
      rw [List.map_cons, if_pos h, valD_neg (by intro z; exact hne (z.symm.trans h)), valD_neg (by intro z; exact hne (z.symm.trans h))]
      by_cases h2 : (r.any fun kv => decide (kv.1 = kk)) = true
      · rw [if_pos h2] at ih
        exact ih
      · have e : (r.map fun kv => if kv.1 = kk then (kv.1, v) else kv) = r := by
          rw [List.map_congr_left (g := id) (fun q hq => ?_), List.map_id]
          rw [if_neg (fun z => h2 (List.any_eq_true.mpr ⟨q, hq, by simp [z]⟩))]
          rfl
        rw [e]
    · by_cases h2 : (r.any fun kv => decide (kv.1 = kk)) = true
      · rw [if_pos (by simp [List.any_cons, h, h2])]
        rw [if_pos h2] at ih
        rw [List.map_cons, if_neg h]
        by_cases h3 : p.1 = k2
        · rw [valD_pos h3, valD_pos h3]
        · rw [valD_neg h3, valD_neg h3]; exact ih
      · rw [if_neg (by simp [List.any_cons, h] at h2 ⊢; exact h2)]
        rw [if_neg h2] at ih
        rw [List.cons_append]
        by_cases h3 : p.1 = k2
        · rw [valD_pos h3, valD_pos h3]
        · rw [valD_neg h3, valD_neg h3]; exact ih
theorem any_valD : (kvs.any fun kv => decide (kv.1 = kk)) = (valD kvs kk).isSome := by
  induction kvs with
  | nil => rfl
  | cons p r ih =>
    by_cases h : p.1 = kk
    · simp [List.any_cons, h, valD]
    · rw [List.any_cons, valD_neg h, ← ih]; simp [h]
theorem keys_put_old {v : D} (h : (valD kvs kk).isSome = true) : (putKD kvs kk v).map (·.1) = kvs.map (·.1) := by
  unfold putKD
  rw [if_pos (by rw [any_valD]; exact h), List.map_map]
  refine List.map_congr_left fun p _ => ?_
  show (if p.1 = kk then (p.1, v) else p).1 = p.1
  split <;> rfl
theorem keys_put_new {v : D} (h : valD kvs kk = none) : putKD kvs kk v = kvs ++ [(kk, v)] := by
  unfold putKD
  rw [if_neg (by rw [any_valD, h]; simp)]
theorem mup_comm {μ : Mu} {a b : Addr} {o u : MO} (h : a ≠ b) : mup (mup μ a o) b u = mup (mup μ b u) a o := by
  funext c; unfold mup
  by_cases e : c = a
  · subst e; rw [if_neg h, if_pos rfl, if_pos rfl]
  · by_cases e2 : c = b
    · subst e2; rw [if_pos rfl, if_neg e, if_pos rfl]
    · rw [if_neg e2, if_neg e, if_neg e, if_neg e2]
end
end J

namespace J
open PySem PySem.Spec PyProof.Rows L2
theorem rngD_eq (n : Nat) : rngD 0 n = (List.range' 0 n).map fun i : Nat => D.int (i : Nat) := by
  unfold rngD
  rw [List.range_eq_range']
  refine List.map_congr_left fun i _ => ?_
  rw [Int.zero_add]
/-- a loop over range(n) -/
theorem loop_rng {g : TG2} {tb : TS2} {G : Mu → Prop} {D1 : Ends2} {n : Nat} (P : Nat → Sg → Mu → Prop) (hG : ∀ k δ μ, P k δ μ → G μ)
    (hs : ∀ k δ μ, k < n → P k δ μ → ∀ QN : Sg → Mu → Prop, (∀ δ' μ', P (k + 1) δ' μ' → QN δ' μ') → g (.int (k : Nat)) δ μ fun δ' μ' => tb { nx := QN, rt := D1.rt, bk := D1.nx, ct := QN } δ' μ')
    (hd : ∀ δ μ, P n δ μ → D1.nx δ μ) (δ : Sg) (μ : Mu) (p : P 0 δ μ) : jLoop g tb G D1 (rngD 0 n) δ μ := by
  rw [rngD_eq]
  refine loop_inv (fun r δ μ => ∃ k m, k + m = n ∧ r = (List.range' k m).map (fun i : Nat => D.int (i : Nat)) ∧ P k δ μ) (fun r δ μ ⟨k, m, _, _, h⟩ => hG k δ μ h) ?_ ?_ _ _ _ ⟨0, n, by omega, rfl, p⟩
  · rintro x r δ μ ⟨k, m, hk, hr, h⟩ QN hN
    cases m with
    | zero => cases hr
    | succ m =>
      rw [List.range'_succ, List.map_cons] at hr
      injection hr with h1 h2
      subst h1
      exact hs k δ μ (by omega) h QN fun δ' μ' p' => hN _ _ ⟨k + 1, m, by omega, h2, p'⟩
  · rintro δ μ ⟨k, m, hk, hr, h⟩
    cases m with
    | zero =>
      have e : k = n := by omega
      subst e
      exact hd _ _ h
    | succ m => rw [List.range'_succ, List.map_cons] at hr; cases hr
end J
namespace J
open PySem PySem.Spec PyProof.Rows L2
theorem x_seqo {n : Sg → Mu → Prop} {r : QE} {b c : Sg → Mu → Prop} {δ : Sg} {μ : Mu} {t u : TS2} (h : ∀ N : Sg → Mu → Prop, N = u { nx := n, rt := r, bk := b, ct := c } → t { nx := N, rt := r, bk := b, ct := c } δ μ) : jSeq t u { nx := n, rt := r, bk := b, ct := c } δ μ := h _ rfl
theorem x_nx {N P : Sg → Mu → Prop} {δ : Sg} {μ : Mu} (e : N = P) (h : P δ μ) : N δ μ := by rw [e]; exact h
end J
namespace J
open PySem PySem.Spec PyProof.Rows L2
/-! ### guards: the shape of a goal, asked before a rule with side conditions is tried -/
section
variable {δ : Sg} {μ : Mu} {Q : QE} {QS : Sg → Mu → Prop} {QM : Mu → Prop} {d e : D} {i j : Int} {k n : Nat} {a : Addr} {xs : List D} {A : Prop}
theorem g_name (h : kName k d δ μ QS) : kName k d δ μ QS := h
theorem g_var (h : jVar k δ μ Q) : jVar k δ μ Q := h
theorem g_aug {t : TE2} {r : O2} {D0 : Ends2} (h : jAug k t r D0 δ μ) : jAug k t r D0 δ μ := h
theorem g_mul (h : mul2 (.int i) (.int j) μ Q) : mul2 (.int i) (.int j) μ Q := h
theorem g_mod (h : mod2 (.int i) (.int j) μ Q) : mod2 (.int i) (.int j) μ Q := h
theorem g_fdiv (h : fdiv2 (.int i) (.int j) μ Q) : fdiv2 (.int i) (.int j) μ Q := h
theorem g_shr (h : shr2 (.int i) (.int j) μ Q) : shr2 (.int i) (.int j) μ Q := h
theorem g_pow (h : pow2 (.int i) (.int j) μ Q) : pow2 (.int i) (.int j) μ Q := h
theorem g_ixL (h : ix2 (.lst xs) d μ Q) : ix2 (.lst xs) d μ Q := h
theorem g_ixT (h : ix2 (.tup xs) d μ Q) : ix2 (.tup xs) d μ Q := h
theorem g_ixM (h : ix2 (.ref a) d μ Q) : ix2 (.ref a) d μ Q := h
theorem g_setL (h : set2 (.ref a) d e μ QM) : set2 (.ref a) d e μ QM := h
theorem g_lenM (h : len1 [.ref a] μ Q) : len1 [.ref a] μ Q := h
theorem g_listM (h : list1 [.ref a] μ Q) : list1 [.ref a] μ Q := h
theorem g_tupleM (h : tuple1 [.ref a] μ Q) : tuple1 [.ref a] μ Q := h
theorem g_isi {T : Ty} (h : isi T [d, e] μ Q) : isi T [d, e] μ Q := h
theorem g_tyM (h : TyM "list" (.ref a) μ ∧ A) : TyM "list" (.ref a) μ ∧ A := h
theorem g_tyMD (h : TyM "dict" (.ref a) μ ∧ A) : TyM "dict" (.ref a) μ ∧ A := h
theorem g_le (h : k ≤ n ∧ A) : k ≤ n ∧ A := h
end
end J

namespace J
open PySem PySem.Spec PyProof.Rows L2
section
variable {δ : Sg} {μ : Mu} {Q : QE} {QS : Sg → Mu → Prop} {d : D} {n : Nat} {r xs : List D} {t : TG2} {u : TGs2}
theorem x_ktup (hl : xs.length = n) (h : u xs δ μ QS) : kTup n u (.tup xs) δ μ QS := ⟨xs, rfl, hl, h⟩
theorem x_kcons (h : t d δ μ fun δ' μ' => u r δ' μ' QS) : kCons t u (d :: r) δ μ QS := ⟨d, r, rfl, h⟩
theorem x_knil (h : QS δ μ) : kNil [] δ μ QS := ⟨rfl, h⟩
theorem g_ktup (h : kTup n u (.tup xs) δ μ QS) : kTup n u (.tup xs) δ μ QS := h
end
/-! ### list(range(..)) -/
def rg1 : O1 := fun x μ Q => ∃ n : Int, x = .int n ∧ RgOk 0 n ∧ NewL (rngD 0 n.toNat) μ Q
def rg2 : O2 := fun x y μ Q => ∃ a b : Int, x = .int a ∧ y = .int b ∧ RgOk a b ∧ NewL (rngD a (b - a).toNat) μ Q
theorem rg_reps {K : PySem.W.Frag} {F : Hp} {a : Int} : ∀ l : List Nat, Reps K F (l.map fun i => V.int (a + (i : Nat))) (l.map fun i => D.int (a + (i : Nat)))
  | [] => .nil
  | _ :: r => .cons .int (rg_reps r)
section
variable {X : Cx} {Z : Zw}
theorem jlistRg1 {e : Expr} {te : TE2} {p p2 pos pos2 : Pos} (hc : X.calm = true) (hg : Gl X "list") (hm : X.mg "list" = none) (hg2 : Gl X "range") (hm2 : X.mg "range" = none) (he : E2 X Z e te)
    (hs : starEach [e] X.env = (false, eval e X.env) :: starEach [] X.env := by rfl)
    (hs2 : starEach [.Call (.Name "range" p2) [e] [] pos2] X.env = (false, eval (.Call (.Name "range" p2) [e] [] pos2) X.env) :: starEach [] X.env := by rfl) :
    E2 X Z (.Call (.Name "list" p) [.Call (.Name "range" p2) [e] [] pos2] [] pos) (jUn rg1 te) := by
  refine pe_imp (pe_listRg hc hg hm (prg_1 hg2 hm2 he hs) hs2) ?_
  rintro σ H Q ⟨F, δ, μ, Q0, m, q, k⟩
  refine ⟨F, δ, μ, _, m, q, ?_⟩
  rintro x μ1 F1 H1 v ⟨n, rfl, ok, nl⟩ g1 w1 r1
  cases r1
  have e : n - 0 = n := Int.sub_zero n
  exact ⟨n, rfl, ok, fun q hq => newL_ok w1 hq (by unfold rgV rngD; rw [e]; exact rg_reps _) nl (tr k g1)⟩
theorem jlistRg2 {e f : Expr} {te tf : TE2} {p p2 pos pos2 : Pos} (hc : X.calm = true) (hg : Gl X "list") (hm : X.mg "list" = none) (hg2 : Gl X "range") (hm2 : X.mg "range" = none) (he : E2 X Z e te) (hf : E2 X Z f tf)
    (hs : starEach [e, f] X.env = (false, eval e X.env) :: starEach [f] X.env := by rfl) (hsb : starEach [f] X.env = (false, eval f X.env) :: starEach [] X.env := by rfl) (hp : (backTo pos2 (starEach [f] X.env)).any (·.1) = false := by rfl)
    (hs2 : starEach [.Call (.Name "range" p2) [e, f] [] pos2] X.env = (false, eval (.Call (.Name "range" p2) [e, f] [] pos2) X.env) :: starEach [] X.env := by rfl) :
    E2 X Z (.Call (.Name "list" p) [.Call (.Name "range" p2) [e, f] [] pos2] [] pos) (jOp rg2 te tf) := by
  refine pe_imp (pe_listRg hc hg hm (prg_2 hg2 hm2 he hf hs hsb hp) hs2) ?_
  rintro σ H Q ⟨F, δ, μ, Q0, m, q, k⟩
  refine ⟨F, δ, μ, _, m, q, ?_⟩
  rintro x μ1 F1 H1 v q1 g1 w1 r1
  refine ⟨F1, δ, μ1, _, m.step g1 w1, q1, ?_⟩
  rintro y μ2 F2 H2 u ⟨a, b, rfl, rfl, ok, nl⟩ g2 w2 r2
  cases r1; cases r2
  exact ⟨a, b, rfl, rfl, ok, fun q hq => newL_ok w2 hq (by unfold rgV rngD; exact rg_reps _) nl (tr k (g1.trans g2))⟩
end
end J

namespace J
open PySem PySem.Spec PyProof.Rows L2
section
variable {X : Cx}
def reverse1 : OM
  | .ref a, [], μ, Q => ∃ xs, μ a = some (.lst xs) ∧ Q .non (mup μ a (.lst xs.reverse))
  | _, _, _, _ => False
theorem mreverse : MtR X "list.reverse" (lowOM X.K reverse1) := by
  rintro pins s σ H x xs v us Q I rx r ⟨F, μ, d, ds, Q0, w, r1, rs, q, k⟩
  unfold reverse1 at q
  split at q <;> first | exact False.elim q | skip
  cases r1
  cases rs
  obtain ⟨zs, h, q⟩ := q
  obtain ⟨vs, h1, r2⟩ := mlst_at w h
  obtain ⟨w2, g2⟩ := w.write h (RepM.lst (Reps.reverse r2))
  exact mt_reverse pins s σ H _ _ v us Q I rx r ⟨_, vs, rfl, rfl, h1, k _ _ _ _ _ q g2 w2 .non⟩
end
theorem x_reverse {a : Addr} {xs : List D} {μ : Mu} {Q : QE} (ha : μ a = some (.lst xs)) (h : Q .non (mup μ a (.lst xs.reverse))) : reverse1 (.ref a) [] μ Q := ⟨xs, ha, h⟩
end J

open PySem PySem.Spec PyProof.Rows L2 J
local macro_rules | `(tactic| walk_at "mu") => `(tactic| first
  | assumption
  | exact mup_same
  | (refine Eq.trans (mup_ne ?_) ?_ <;> first | assumption | (apply Ne.symm; assumption) | exact mup_same | (refine Eq.trans (mup_ne ?_) ?_ <;> first | assumption | (apply Ne.symm; assumption) | exact mup_same | (refine Eq.trans (mup_ne ?_) ?_ <;> first | assumption | (apply Ne.symm; assumption) | exact mup_same))))
local macro_rules | `(tactic| walk_at "sz") => `(tactic| first
  | exact Nat.le_of_ble_eq_true (by with_unfolding_all rfl)
  | assumption
  | (simp only [List.length_append, List.length_cons, List.length_nil, List.length_map, List.length_set, List.length_reverse] at *; have hszl := sizeLine_eq; omega))
local macro_rules | `(tactic| walk_at "j") => `(tactic| with_reducible first
  | refine x_seqo fun _ _ => ?_ | refine x_asg ?_ | refine x_ret ?_ | refine x_retN ?_ | refine x_ifs ?_ | refine x_next ?_ | refine x_brk ?_ | refine x_cont ?_ | refine x_drop ?_
  | (refine g_name ?_; refine x_name (by dsimp only [List.set]) ?_)
  | (refine g_var ?_; refine x_var (by with_unfolding_all rfl) ?_) | refine x_c ?_ | refine x_op ?_ | refine x_un ?_ | refine x_test ?_ | refine x_blk ?_ | refine x_chain ?_
  | refine x_and ?_ | refine x_or ?_ | refine x_not ?_ | refine x_andV ?_ | refine x_orV ?_ | refine x_notV ?_ | refine x_if ?_
  | refine x_nil ?_ | refine x_cons ?_ | refine x_tup ?_ | refine x_lst ?_ | refine x_cb ?_ | refine x_call ?_ | refine x_bm0 ?_ | refine x_bm ?_
  | refine x_sl ?_ | refine x_nopart ?_ | refine x_part ?_ | refine x_parti ?_ | refine x_sub ?_ | refine x_for ?_ | refine x_lc ?_ | refine x_yes ?_
  | (refine g_ktup ?_; refine x_ktup (by with_unfolding_all rfl) ?_) | refine x_kcons ?_ | refine x_knil ?_
  | refine x_disp ?_ | refine x_pairs0 ?_ | refine x_pairs ?_ | refine x_dnew ?_
  | (refine g_mul ?_; refine x_mulR (by decide) ?_) | (refine g_mul ?_; refine x_mulL (by decide) ?_) | (refine g_mod ?_; refine x_mod (by first | decide | omega) ?_) | (refine g_fdiv ?_; refine x_fdiv (by decide) (by decide) ?_) | (refine g_shr ?_; refine x_shr (by first | decide | omega) ?_) | (refine g_pow ?_; refine x_pow (by decide) ?_)
  | refine x_par ?_ | (refine g_aug ?_; refine x_aug (by with_unfolding_all rfl) ?_) | refine x_augI ?_
  | refine x_add ?_ | refine x_subI ?_ | refine x_neg ?_ | refine x_cmp ?_ | refine x_cmpS ?_ | refine x_eqI ?_ | refine x_eqS ?_ | refine x_eqB ?_ | refine x_neI ?_ | refine x_neS ?_ | refine x_neB ?_ | refine x_isB ?_ | refine x_isnB ?_
  | (refine g_ixL ?_; refine x_ixL (by with_unfolding_all rfl) ?_) | (refine g_ixT ?_; refine x_ixT (by with_unfolding_all rfl) ?_) | (refine g_ixM ?_; refine x_ixM (by walk_at "mu") (by with_unfolding_all rfl) ?_)
  | (refine g_setL ?_; refine x_setL (by walk_at "mu") (by with_unfolding_all rfl) ?_)
  | refine x_lenL ?_ | refine x_lenR ?_ | refine x_lenT ?_ | refine x_lenD ?_ | (refine g_lenM ?_; refine x_lenM (by walk_at "mu") ?_)
  | refine x_int ?_ | refine x_intB ?_ | refine x_listL ?_ | refine x_listR ?_ | refine x_listT ?_ | refine x_listD ?_ | (refine g_listM ?_; refine x_listM (by walk_at "mu") ?_) | (refine g_listM ?_; refine x_listDM (by walk_at "mu") ?_)
  | refine x_tupleL ?_ | refine x_tupleT ?_ | (refine g_tupleM ?_; refine x_tupleM (by walk_at "mu") ?_) | refine x_abs ?_ | refine x_max ?_ | refine x_min ?_
  | (refine g_isi ?_; refine x_isi (by with_unfolding_all rfl) (by with_unfolding_all rfl) ?_)
  | (refine g_tyM ?_; refine x_tyM (by walk_at "mu") ?_) | (refine g_tyMD ?_; refine x_tyMD (by walk_at "mu") ?_)
  | refine x_iL ?_ | refine x_iLf ?_ | refine x_iLr ?_ | refine x_iT ?_ | refine x_iTf ?_ | refine x_iR1 ?_ | refine x_iR2 ?_
  | (refine g_le ?_; refine And.intro (Nat.le_of_ble_eq_true (by with_unfolding_all rfl)) ?_)
  | refine x_nx (by assumption) ?_)
local macro_rules | `(tactic| walk_at "js") => `(tactic| repeat (walk_at "j"))

namespace L
open PySem PySem.Spec PyProof.Rows L2 J
def t_balanced_height (sp : Sp2) : TS2 :=
    jSeq (jIfS (jTest (jOp eq2 (jCB len1 (jCons (jVar 0) (jNil))) (jC (.int 0))))
    (jRet (jC (.int 0)))
    (jNext))
    (jSeq (jAsg (jCall sp [] noEx (jCons (jOp ix2 (jVar 0) (jC (.int 0))) (jNil))) (kName 1))
    (jSeq (jIfS (jTest (jOp lt2 (jVar 1) (jC (.int 0))))
    (jRet (jUn neg1 (jC (.int 1))))
    (jNext))
    (jSeq (jAsg (jCall sp [] noEx (jCons (jOp ix2 (jVar 0) (jC (.int 2))) (jNil))) (kName 2))
    (jSeq (jIfS (jOr (jTest (jOp lt2 (jVar 2) (jC (.int 0)))) (jTest (jOp gt2 (jCB abs1 (jCons (jOp sub2 (jVar 1) (jVar 2)) (jNil))) (jC (.int 1)))))
    (jRet (jUn neg1 (jC (.int 1))))
    (jNext))
    (jRet (jOp add2 (jCB max1 (jCons (jVar 1) (jCons (jVar 2) (jNil)))) (jC (.int 1))))))))
def t_is_balanced (sp_balanced_height : Sp2) : TS2 :=
    jRet (jOp ge2 (jCall sp_balanced_height [] noEx (jCons (jVar 0) (jNil))) (jC (.int 0)))
def t_collect_keys (sp : Sp2) : TS2 :=
    jSeq (jIfS (jTest (jOp eq2 (jCB len1 (jCons (jVar 0) (jNil))) (jC (.int 0))))
    (jRetN)
    (jNext))
    (jSeq (jAsg (jVar 0) (kTup 3 (kCons (kName 2) (kCons (kName 3) (kCons (kName 4) (kNil))))))
    (jSeq (jDrop (jCall sp [] noEx (jCons (jVar 2) (jCons (jVar 1) (jNil)))))
    (jSeq (jDrop (jBM "list" append1 (jVar 1) (jCons (jVar 3) (jNil))))
    (jDrop (jCall sp [] noEx (jCons (jVar 4) (jCons (jVar 1) (jNil))))))))
def t_shape_keys (sp_collect_keys : Sp2) : TS2 :=
    jSeq (jAsg (jLst (jNil)) (kName 1))
    (jSeq (jDrop (jCall sp_collect_keys [] noEx (jCons (jVar 0) (jCons (jVar 1) (jNil)))))
    (jRet (jVar 1)))
def t_shape_height (sp : Sp2) : TS2 :=
    jSeq (jIfS (jTest (jOp eq2 (jCB len1 (jCons (jVar 0) (jNil))) (jC (.int 0))))
    (jRet (jC (.int 0)))
    (jNext))
    (jRet (jOp add2 (jCB max1 (jCons (jCall sp [] noEx (jCons (jOp ix2 (jVar 0) (jC (.int 0))) (jNil))) (jCons (jCall sp [] noEx (jCons (jOp ix2 (jVar 0) (jC (.int 2))) (jNil))) (jNil)))) (jC (.int 1))))
def t_l_store : TS2 :=
    jSeq (jAsg (jCB list1 (jCons (jVar 0) (jNil))) (kName 1))
    (jSeq (jAsg (jOp add2 (jC (.int 7)) (jCB len1 (jCons (jVar 1) (jNil)))) (kName 2))
    (jSeq (jFor (iL (jVar 1)) (kName 3)
    (jAsg (jOp mod2 (jOp add2 (jOp add2 (jOp mul2 (jVar 2) (jC (.int 48271))) (jOp mod2 (jCB int1 (jCons (jVar 3) (jNil))) (jC (.int 2147483629)))) (jC (.int 1))) (jC (.int 2147483647))) (kName 2)))
    (jRet (jLst (jCons (jVar 1) (jCons (jC (.int 0)) (jCons (jC (.int 0)) (jCons (jVar 2) (jCons (jC (.int 0)) (jNil))))))))))
def t_l_take : TS2 :=
    jSeq (jIfS (jTest (jOp lt2 (jVar 1) (jC (.int 2))))
    (jRet (jC (.int 0)))
    (jNext))
    (jSeq (jAsg (jCB int1 (jCons (jOp ix2 (jVar 0) (jC (.int 2))) (jNil))) (kName 2))
    (jSeq (jIfS (jTest (jOp gt2 (jVar 2) (jC (.int 0))))
    (jSeq (jAsg (jOp fdiv2 (jVar 2) (jVar 1)) (kSub (jVar 0) (jC (.int 2))))
    (jRet (jOp mod2 (jVar 2) (jVar 1))))
    (jNext))
    (jSeq (jAsg (jOp add2 (jCB int1 (jCons (jOp ix2 (jVar 0) (jC (.int 4))) (jNil))) (jC (.int 1))) (kSub (jVar 0) (jC (.int 4))))
    (jSeq (jAsg (jCB int1 (jCons (jOp ix2 (jVar 0) (jC (.int 4))) (jNil))) (kName 3))
    (jSeq (jAsg (jOp ix2 (jVar 0) (jC (.int 0))) (kName 4))
    (jSeq (jAsg (jCB int1 (jCons (jOp ix2 (jVar 0) (jC (.int 1))) (jNil))) (kName 5))
    (jSeq (jIfS (jTest (jOp lt2 (jVar 5) (jCB len1 (jCons (jVar 4) (jNil)))))
    (jSeq (jAsg (jCB int1 (jCons (jOp ix2 (jVar 4) (jVar 5)) (jNil))) (kName 6))
    (jSeq (jAsg (jOp add2 (jVar 5) (jC (.int 1))) (kSub (jVar 0) (jC (.int 1))))
    (jSeq (jIfS (jTest (jOp ge2 (jVar 6) (jOp pow2 (jC (.int 10)) (jC (.int 18)))))
    (jSeq (jAsg (jOp fdiv2 (jVar 6) (jVar 1)) (kSub (jVar 0) (jC (.int 2))))
    (jRet (jOp mod2 (jVar 6) (jVar 1))))
    (jNext))
    (jAsg (jOp mod2 (jOp add2 (jOp add2 (jOp mul2 (jVar 6) (jC (.int 48271))) (jOp mul2 (jVar 3) (jC (.int 69621)))) (jC (.int 104729))) (jC (.int 2147483647))) (kName 7)))))
    (jSeq (jAsg (jOp mod2 (jOp add2 (jOp add2 (jOp mul2 (jCB int1 (jCons (jOp ix2 (jVar 0) (jC (.int 3))) (jNil))) (jC (.int 48271))) (jOp mul2 (jVar 3) (jC (.int 69621)))) (jC (.int 1))) (jC (.int 2147483647))) (kName 7))
    (jAsg (jVar 7) (kSub (jVar 0) (jC (.int 3))))))
    (jRet (jOp mod2 (jOp mod2 (jOp add2 (jOp mul2 (jVar 7) (jVar 7)) (jOp fdiv2 (jVar 7) (jC (.int 1009)))) (jC (.int 2147483399))) (jVar 1))))))))))
def t_l_between (sp_l_take : Sp2) : TS2 :=
    jSeq (jIfS (jTest (jOp le2 (jVar 2) (jVar 1)))
    (jRet (jVar 1))
    (jNext))
    (jSeq (jAsg (jCall sp_l_take [] noEx (jCons (jVar 0) (jCons (jC (.int 9)) (jNil)))) (kName 3))
    (jSeq (jIfS (jTest (jOp eq2 (jVar 3) (jC (.int 0))))
    (jRet (jVar 1))
    (jNext))
    (jSeq (jIfS (jTest (jOp eq2 (jVar 3) (jC (.int 1))))
    (jRet (jVar 2))
    (jNext))
    (jSeq (jIfS (jTest (jOp eq2 (jVar 3) (jC (.int 2))))
    (jRet (jOp add2 (jVar 1) (jC (.int 1))))
    (jNext))
    (jRet (jOp add2 (jVar 1) (jCall sp_l_take [] noEx (jCons (jVar 0) (jCons (jOp add2 (jOp sub2 (jVar 2) (jVar 1)) (jC (.int 1))) (jNil))))))))))
def t_l_is_integer : TS2 :=
    jRet (jAndV (jCB (isi .int) (jCons (jVar 0) (jCons (jC (.ty "int")) jNil))) (jNotV (jCB (isi .bl) (jCons (jVar 0) (jCons (jC (.ty "bool")) jNil)))))
def t_l_same (sp_l_is_integer : Sp2) (sp : Sp2) : TS2 :=
    jSeq (jIfS (jOr (jTest (jOp (is2 false) (jVar 0) (jC .non))) (jTest (jOp (is2 false) (jVar 1) (jC .non))))
    (jRet (jAndV (jOp (is2 false) (jVar 0) (jC .non)) (jOp (is2 false) (jVar 1) (jC .non))))
    (jNext))
    (jSeq (jIfS (jOr (jTest (jCB (isi .bl) (jCons (jVar 0) (jCons (jC (.ty "bool")) jNil)))) (jTest (jCB (isi .bl) (jCons (jVar 1) (jCons (jC (.ty "bool")) jNil)))))
    (jRet (jAndV (jCB (isi .bl) (jCons (jVar 0) (jCons (jC (.ty "bool")) jNil))) (jAndV (jCB (isi .bl) (jCons (jVar 1) (jCons (jC (.ty "bool")) jNil))) (jOp eq2 (jVar 0) (jVar 1)))))
    (jNext))
    (jSeq (jIfS (jOr (jTest (jCB (isi .int) (jCons (jVar 0) (jCons (jC (.ty "int")) jNil)))) (jTest (jCB (isi .int) (jCons (jVar 1) (jCons (jC (.ty "int")) jNil)))))
    (jRet (jAndV (jCB (isi .int) (jCons (jVar 0) (jCons (jC (.ty "int")) jNil))) (jAndV (jCB (isi .int) (jCons (jVar 1) (jCons (jC (.ty "int")) jNil))) (jOp eq2 (jVar 0) (jVar 1)))))
    (jNext))
    (jSeq (jIfS (jOr (jTest (jCB (isi .str) (jCons (jVar 0) (jCons (jC (.ty "str")) jNil)))) (jTest (jCB (isi .str) (jCons (jVar 1) (jCons (jC (.ty "str")) jNil)))))
    (jRet (jAndV (jCB (isi .str) (jCons (jVar 0) (jCons (jC (.ty "str")) jNil))) (jAndV (jCB (isi .str) (jCons (jVar 1) (jCons (jC (.ty "str")) jNil))) (jOp eq2 (jVar 0) (jVar 1)))))
    (jNext))
    (jSeq (jIfS (jOr (jTest (jCB (isi .dct) (jCons (jVar 0) (jCons (jC (.ty "dict")) jNil)))) (jTest (jCB (isi .dct) (jCons (jVar 1) (jCons (jC (.ty "dict")) jNil)))))
    (jSeq (jIfS (jOr (jNot (jTest (jCB (isi .dct) (jCons (jVar 0) (jCons (jC (.ty "dict")) jNil))))) (jOr (jNot (jTest (jCB (isi .dct) (jCons (jVar 1) (jCons (jC (.ty "dict")) jNil))))) (jTest (jOp ne2 (jCB len1 (jCons (jVar 0) (jNil))) (jCB len1 (jCons (jVar 1) (jNil)))))))
    (jRet (jC (.bl false)))
    (jNext))
    (jSeq (jFor (iL (jCB list1 (jCons (jVar 0) (jNil)))) (kName 4)
    (jSeq (jIfS (jOr (jNot (jOr (jTest (jCB (isi .str) (jCons (jVar 4) (jCons (jC (.ty "str")) jNil)))) (jTest (jCall sp_l_is_integer [] noEx (jCons (jVar 4) (jNil)))))) (jTest (jOp (in2 true) (jVar 4) (jVar 1))))
    (jRet (jC (.bl false)))
    (jNext))
    (jIfS (jNot (jTest (jCall sp [] noEx (jCons (jOp ix2 (jVar 0) (jVar 4)) (jCons (jOp ix2 (jVar 1) (jVar 4)) (jNil))))))
    (jRet (jC (.bl false)))
    (jNext))))
    (jSeq (jFor (iL (jCB list1 (jCons (jVar 1) (jNil)))) (kName 4)
    (jIfS (jNot (jOr (jTest (jCB (isi .str) (jCons (jVar 4) (jCons (jC (.ty "str")) jNil)))) (jTest (jCall sp_l_is_integer [] noEx (jCons (jVar 4) (jNil))))))
    (jRet (jC (.bl false)))
    (jNext)))
    (jRet (jC (.bl true))))))
    (jNext))
    (jSeq (jAsg (jAndV (jCB (isi .lst) (jCons (jVar 0) (jCons (jC (.ty "list")) jNil))) (jCB (isi .lst) (jCons (jVar 1) (jCons (jC (.ty "list")) jNil)))) (kName 2))
    (jSeq (jIfS (jAnd (jNot (jTest (jVar 2))) (jNot (jAnd (jTest (jCB (isi .tup) (jCons (jVar 0) (jCons (jC (.ty "tuple")) jNil)))) (jTest (jCB (isi .tup) (jCons (jVar 1) (jCons (jC (.ty "tuple")) jNil)))))))
    (jRet (jC (.bl false)))
    (jNext))
    (jSeq (jIfS (jTest (jOp ne2 (jCB len1 (jCons (jVar 0) (jNil))) (jCB len1 (jCons (jVar 1) (jNil)))))
    (jRet (jC (.bl false)))
    (jNext))
    (jSeq (jFor (iR1 (jCons (jCB len1 (jCons (jVar 0) (jNil))) (jNil))) (kName 3)
    (jIfS (jNot (jTest (jCall sp [] noEx (jCons (jOp ix2 (jVar 0) (jVar 3)) (jCons (jOp ix2 (jVar 1) (jVar 3)) (jNil))))))
    (jRet (jC (.bl false)))
    (jNext)))
    (jRet (jC (.bl true)))))))))))
def t_l_name (sp_l_between : Sp2) (sp_l_take : Sp2) : TS2 :=
    jSeq (jAsg (jCall sp_l_between [] noEx (jCons (jVar 0) (jCons (jC (.int 1)) (jCons (jC (.int 12)) (jNil))))) (kName 1))
    (jSeq (jAsg (jOp ix2 (jC (.str ("abcdefghijklmnopqrstuvwxyz" : Str))) (jCall sp_l_take [] noEx (jCons (jVar 0) (jCons (jC (.int 26)) (jNil))))) (kName 2))
    (jSeq (jAsg (jOp eq2 (jCall sp_l_take [] noEx (jCons (jVar 0) (jCons (jC (.int 3)) (jNil)))) (jC (.int 0))) (kName 3))
    (jSeq (jFor (iR1 (jCons (jOp sub2 (jVar 1) (jC (.int 1))) (jNil))) (kName 4)
    (jIfS (jTest (jVar 3))
    (jAsg (jOp add2 (jVar 2) (jOp ix2 (jVar 2) (jC (.int 0)))) (kName 2))
    (jAsg (jOp add2 (jVar 2) (jOp ix2 (jC (.str ("0123456789abcdefghijklmnopqrstuvwxyz" : Str))) (jCall sp_l_take [] noEx (jCons (jVar 0) (jCons (jC (.int 36)) (jNil)))))) (kName 2))))
    (jRet (jVar 2)))))
def t_l_key (sp_l_between : Sp2) (sp_l_take : Sp2) (sp_l_name : Sp2) : TS2 :=
    jSeq (jAsg (jCall sp_l_between [] noEx (jCons (jVar 0) (jCons (jC (.int 1)) (jCons (jC (.int 4)) (jNil))))) (kName 2))
    (jSeq (jAsg (jCall sp_l_take [] noEx (jCons (jVar 0) (jCons (jVar 2) (jNil)))) (kName 3))
    (jSeq (jAsg (jLst (jNil)) (kName 4))
    (jSeq (jFor (iR1 (jCons (jVar 2) (jNil))) (kName 5)
    (jSeq (jAsg (jOp ix2 (jLst (jCons (jC (.str ("house" : Str))) (jCons (jC (.str ("arc" : Str))) (jCons (jC (.str ("" : Str))) (jCons (jC (.str ("a" : Str))) (jCons (jC (.str ("b" : Str))) (jCons (jC (.str (" " : Str))) (jCons (jC (.str ("x y" : Str))) (jCons (jC (.str ("\n" : Str))) (jNil)))))))))) (jCall sp_l_take [] noEx (jCons (jVar 0) (jCons (jC (.int 8)) (jNil))))) (kName 6))
    (jSeq (jIfS (jTest (jOp eq2 (jVar 5) (jVar 3)))
    (jAsg (jCB str1 (jCons (jVar 1) (jNil))) (kName 6))
    (jIfS (jTest (jOp eq2 (jCall sp_l_take [] noEx (jCons (jVar 0) (jCons (jC (.int 4)) (jNil)))) (jC (.int 0))))
    (jAsg (jCall sp_l_name [] noEx (jCons (jVar 0) (jNil))) (kName 6))
    (jNext)))
    (jDrop (jBM "list" append1 (jVar 4) (jCons (jVar 6) (jNil)))))))
    (jRet (jCB tuple1 (jCons (jVar 4) (jNil)))))))
def t_l_balanced (sp_l_key : Sp2) (sp_l_take : Sp2) (sp : Sp2) : TS2 :=
    jSeq (jIfS (jTest (jOp le2 (jVar 1) (jC (.int 0))))
    (jRet (jTup (jNil)))
    (jNext))
    (jSeq (jAsg (jOp sub2 (jOp sub2 (jVar 1) (jC (.int 1))) (jCB int1 (jCons (jAndV (jOp eq2 (jCall sp_l_take [] noEx (jCons (jVar 0) (jCons (jC (.int 2)) (jNil)))) (jC (.int 1))) (jOp gt2 (jVar 1) (jC (.int 1)))) (jNil)))) (kName 3))
    (jSeq (jAsg (jOp eq2 (jCall sp_l_take [] noEx (jCons (jVar 0) (jCons (jC (.int 2)) (jNil)))) (jC (.int 1))) (kName 4))
    (jSeq (jAsg (jLst (jCons (jOp sub2 (jVar 1) (jC (.int 1))) (jCons (jVar 3) (jNil)))) (kName 5))
    (jSeq (jIfS (jTest (jVar 4))
    (jAsg (jLst (jCons (jVar 3) (jCons (jOp sub2 (jVar 1) (jC (.int 1))) (jNil)))) (kName 5))
    (jNext))
    (jSeq (jAsg (jCall sp [] noEx (jCons (jVar 0) (jCons (jOp ix2 (jVar 5) (jC (.int 0))) (jCons (jVar 2) (jNil))))) (kName 6))
    (jSeq (jAsg (jCall sp_l_key [] noEx (jCons (jVar 0) (jCons (jCB len1 (jCons (jVar 2) (jNil))) (jNil)))) (kName 7))
    (jSeq (jDrop (jBM "list" append1 (jVar 2) (jCons (jVar 7) (jNil))))
    (jRet (jTup (jCons (jVar 6) (jCons (jVar 7) (jCons (jCall sp [] noEx (jCons (jVar 0) (jCons (jOp ix2 (jVar 5) (jC (.int 1))) (jCons (jVar 2) (jNil))))) (jNil)))))))))))))
def t_l_least_shape (sp : Sp2) : TS2 :=
    jSeq (jIfS (jTest (jOp le2 (jVar 0) (jC (.int 0))))
    (jRet (jTup (jNil)))
    (jNext))
    (jSeq (jAsg (jCall sp [] noEx (jCons (jOp sub2 (jVar 0) (jC (.int 1))) (jCons (jVar 1) (jNil)))) (kName 2))
    (jSeq (jAsg (jCall sp [] noEx (jCons (jOp sub2 (jVar 0) (jC (.int 2))) (jCons (jVar 1) (jNil)))) (kName 3))
    (jSeq (jIfS (jTest (jVar 1))
    (jRet (jTup (jCons (jVar 2) (jCons (jTup (jCons (jC (.str ("a" : Str))) (jNil))) (jCons (jVar 3) (jNil))))))
    (jNext))
    (jRet (jTup (jCons (jVar 3) (jCons (jTup (jCons (jC (.str ("a" : Str))) (jNil))) (jCons (jVar 2) (jNil)))))))))
def t_l_chain (sp_l_key : Sp2) (sp_l_take : Sp2) : TS2 :=
    jSeq (jAsg (jTup (jNil)) (kName 2))
    (jSeq (jFor (iR1 (jCons (jVar 1) (jNil))) (kName 3)
    (jSeq (jAsg (jCall sp_l_key [] noEx (jCons (jVar 0) (jCons (jOp mod2 (jCB int1 (jCons (jVar 3) (jNil))) (jC (.int 7))) (jNil)))) (kName 4))
    (jIfS (jTest (jOp eq2 (jCall sp_l_take [] noEx (jCons (jVar 0) (jCons (jC (.int 2)) (jNil)))) (jC (.int 0))))
    (jAsg (jTup (jCons (jVar 2) (jCons (jVar 4) (jCons (jTup (jNil)) (jNil))))) (kName 2))
    (jAsg (jTup (jCons (jTup (jNil)) (jCons (jVar 4) (jCons (jVar 2) (jNil))))) (kName 2)))))
    (jRet (jVar 2)))
def t_l_bent_shape (sp_l_take : Sp2) : TS2 :=
    jSeq (jAsg (jLst (jNil)) (kName 2))
    (jSeq (jAsg (jVar 1) (kName 3))
    (jSeq (jFor (iR1 (jCons (jCall sp_l_take [] noEx (jCons (jVar 0) (jCons (jC (.int 8)) (jNil)))) (jNil))) (kName 4)
    (jIfS (jTest (jOp ne2 (jVar 3) (jTup (jNil))))
    (jSeq (jAsg (jOp mul2 (jC (.int 2)) (jCall sp_l_take [] noEx (jCons (jVar 0) (jCons (jC (.int 2)) (jNil))))) (kName 7))
    (jSeq (jDrop (jBM "list" append1 (jVar 2) (jCons (jTup (jCons (jVar 3) (jCons (jVar 7) (jNil)))) (jNil))))
    (jAsg (jOp ix2 (jVar 3) (jVar 7)) (kName 3))))
    (jNext)))
    (jSeq (jAsg (jCall sp_l_take [] noEx (jCons (jVar 0) (jCons (jC (.int 3)) (jNil)))) (kName 5))
    (jSeq (jIfS (jTest (jOp eq2 (jVar 5) (jC (.int 0))))
    (jAsg (jTup (jNil)) (kName 3))
    (jNext))
    (jSeq (jIfS (jTest (jOp gt2 (jVar 5) (jC (.int 0))))
    (jAsg (jTup (jCons (jVar 3) (jCons (jTup (jCons (jC (.str ("z" : Str))) (jNil))) (jCons (jTup (jNil)) (jNil))))) (kName 3))
    (jNext))
    (jSeq (jIfS (jTest (jOp eq2 (jVar 5) (jC (.int 2))))
    (jAsg (jTup (jCons (jTup (jNil)) (jCons (jTup (jCons (jC (.str ("y" : Str))) (jCons (jC (.str ("z" : Str))) (jNil)))) (jCons (jVar 3) (jNil))))) (kName 3))
    (jNext))
    (jSeq (jFor (iR1 (jCons (jCB len1 (jCons (jVar 2) (jNil))) (jNil))) (kName 4)
    (jSeq (jAsg (jOp ix2 (jVar 2) (jOp sub2 (jOp sub2 (jCB len1 (jCons (jVar 2) (jNil))) (jC (.int 1))) (jVar 4))) (kName 6))
    (jIfS (jTest (jOp eq2 (jOp ix2 (jVar 6) (jC (.int 1))) (jC (.int 0))))
    (jAsg (jTup (jCons (jVar 3) (jCons (jOp ix2 (jOp ix2 (jVar 6) (jC (.int 0))) (jC (.int 1))) (jCons (jOp ix2 (jOp ix2 (jVar 6) (jC (.int 0))) (jC (.int 2))) (jNil))))) (kName 3))
    (jAsg (jTup (jCons (jOp ix2 (jOp ix2 (jVar 6) (jC (.int 0))) (jC (.int 0))) (jCons (jOp ix2 (jOp ix2 (jVar 6) (jC (.int 0))) (jC (.int 1))) (jCons (jVar 3) (jNil))))) (kName 3)))))
    (jRet (jVar 3)))))))))
def t_l_shape (sp_l_take : Sp2) (sp_l_balanced : Sp2) (sp_l_bent_shape : Sp2) (sp_l_chain : Sp2) (sp_l_least_shape : Sp2) (sp_l_between : Sp2) (sp_l_key : Sp2) : TS2 :=
    jSeq (jAsg (jCall sp_l_take [] noEx (jCons (jVar 0) (jCons (jC (.int 8)) (jNil)))) (kName 1))
    (jSeq (jIfS (jTest (jOp eq2 (jVar 1) (jC (.int 0))))
    (jRet (jCall sp_l_chain [] noEx (jCons (jVar 0) (jCons (jCall sp_l_between [] noEx (jCons (jVar 0) (jCons (jC (.int 0)) (jCons (jC (.int 60)) (jNil))))) (jNil)))))
    (jNext))
    (jSeq (jIfS (jTest (jOp eq2 (jVar 1) (jC (.int 1))))
    (jRet (jCall sp_l_least_shape [] noEx (jCons (jCall sp_l_take [] noEx (jCons (jVar 0) (jCons (jC (.int 9)) (jNil)))) (jCons (jOp eq2 (jCall sp_l_take [] noEx (jCons (jVar 0) (jCons (jC (.int 2)) (jNil)))) (jC (.int 0))) (jNil)))))
    (jNext))
    (jSeq (jAsg (jCall sp_l_balanced [] noEx (jCons (jVar 0) (jCons (jCall sp_l_take [] noEx (jCons (jVar 0) (jCons (jC (.int 7)) (jNil)))) (jCons (jLst (jNil)) (jNil))))) (kName 2))
    (jSeq (jIfS (jTest (jOp lt2 (jVar 1) (jC (.int 4))))
    (jRet (jVar 2))
    (jNext))
    (jSeq (jIfS (jTest (jOp eq2 (jVar 1) (jC (.int 4))))
    (jSeq (jAsg (jCall sp_l_balanced [] noEx (jCons (jVar 0) (jCons (jCall sp_l_take [] noEx (jCons (jVar 0) (jCons (jC (.int 7)) (jNil)))) (jCons (jLst (jNil)) (jNil))))) (kName 3))
    (jRet (jTup (jCons (jVar 2) (jCons (jCall sp_l_key [] noEx (jCons (jVar 0) (jCons (jC (.int 0)) (jNil)))) (jCons (jVar 3) (jNil)))))))
    (jNext))
    (jSeq (jIfS (jTest (jOp eq2 (jVar 1) (jC (.int 5))))
    (jRet (jTup (jCons (jVar 2) (jCons (jCall sp_l_key [] noEx (jCons (jVar 0) (jCons (jC (.int 1)) (jNil)))) (jCons (jCall sp_l_chain [] noEx (jCons (jVar 0) (jCons (jCall sp_l_take [] noEx (jCons (jVar 0) (jCons (jC (.int 9)) (jNil)))) (jNil)))) (jNil))))))
    (jNext))
    (jRet (jCall sp_l_bent_shape [] noEx (jCons (jVar 0) (jCons (jVar 2) (jNil)))))))))))
def t_l_measured : TS2 :=
    jSeq (jAsg (jLst (jCons (jTup (jCons (jC (.str ("part" : Str))) (jCons (jVar 0) (jNil)))) (jNil))) (kName 1))
    (jSeq (jAsg (jLst (jNil)) (kName 2))
    (jSeq (jAsg (jLst (jNil)) (kName 3))
    (jSeq (jAsg (jC (.bl true)) (kName 4))
    (jSeq (jFor (iR1 (jCons (jC (.int 1610)) (jNil))) (kName 5)
    (jSeq (jIfS (jTest (jOp eq2 (jCB len1 (jCons (jVar 1) (jNil))) (jC (.int 0))))
    (jRet (jLst (jCons (jOp ix2 (jVar 2) (jC (.int 0))) (jCons (jCB len1 (jCons (jVar 3) (jNil))) (jCons (jVar 4) (jCons (jVar 3) (jNil)))))))
    (jNext))
    (jSeq (jAsg (jBM0 "list" pop1 (jVar 1)) (kName 6))
    (jSeq (jAsg (jOp ix2 (jVar 6) (jC (.int 1))) (kName 7))
    (jIfS (jTest (jOp eq2 (jOp ix2 (jVar 6) (jC (.int 0))) (jC (.str ("key" : Str)))))
    (jDrop (jBM "list" append1 (jVar 3) (jCons (jVar 7) (jNil))))
    (jIfS (jTest (jOp eq2 (jOp ix2 (jVar 6) (jC (.int 0))) (jC (.str ("up" : Str)))))
    (jSeq (jAsg (jBM0 "list" pop1 (jVar 2)) (kName 8))
    (jSeq (jAsg (jBM0 "list" pop1 (jVar 2)) (kName 9))
    (jSeq (jDrop (jBM "list" append1 (jVar 2) (jCons (jOp add2 (jC (.int 1)) (jCB max1 (jCons (jVar 9) (jCons (jVar 8) (jNil))))) (jNil))))
    (jAsg (jAndV (jVar 4) (jOp le2 (jCB abs1 (jCons (jOp sub2 (jVar 9) (jVar 8)) (jNil))) (jC (.int 1)))) (kName 4)))))
    (jIfS (jOr (jNot (jTest (jCB (isi .tup) (jCons (jVar 7) (jCons (jC (.ty "tuple")) jNil))))) (jTest (jOp (in2 true) (jCB len1 (jCons (jVar 7) (jNil))) (jLst (jCons (jC (.int 0)) (jCons (jC (.int 3)) (jNil)))))))
    (jRet (jC .non))
    (jIfS (jTest (jOp eq2 (jCB len1 (jCons (jVar 7) (jNil))) (jC (.int 0))))
    (jDrop (jBM "list" append1 (jVar 2) (jCons (jC (.int 0)) (jNil))))
    (jSeq (jDrop (jBM "list" append1 (jVar 1) (jCons (jTup (jCons (jC (.str ("up" : Str))) (jCons (jC .non) (jNil)))) (jNil))))
    (jSeq (jDrop (jBM "list" append1 (jVar 1) (jCons (jTup (jCons (jC (.str ("part" : Str))) (jCons (jOp ix2 (jVar 7) (jC (.int 2))) (jNil)))) (jNil))))
    (jSeq (jDrop (jBM "list" append1 (jVar 1) (jCons (jTup (jCons (jC (.str ("key" : Str))) (jCons (jOp ix2 (jVar 7) (jC (.int 1))) (jNil)))) (jNil))))
    (jDrop (jBM "list" append1 (jVar 1) (jCons (jTup (jCons (jC (.str ("part" : Str))) (jCons (jOp ix2 (jVar 7) (jC (.int 0))) (jNil)))) (jNil)))))))))))))))
    (jRet (jC .non))))))
def t_l_even (sp : Sp2) : TS2 :=
    jSeq (jIfS (jTest (jOp eq2 (jCB len1 (jCons (jVar 0) (jNil))) (jC (.int 0))))
    (jRet (jTup (jNil)))
    (jNext))
    (jSeq (jAsg (jOp fdiv2 (jCB len1 (jCons (jVar 0) (jNil))) (jC (.int 2))) (kName 1))
    (jRet (jTup (jCons (jCall sp [] noEx (jCons (jSl (jVar 0) jNoPart (jPart (jVar 1))) (jNil))) (jCons (jOp ix2 (jVar 0) (jVar 1)) (jCons (jCall sp [] noEx (jCons (jSl (jVar 0) (jPart (jOp add2 (jVar 1) (jC (.int 1)))) jNoPart) (jNil))) (jNil)))))))
def t_l_plain_keys (sp_l_take : Sp2) (sp_l_key : Sp2) : TS2 :=
    jSeq (jAsg (jOp add2 (jC (.int 1)) (jCall sp_l_take [] noEx (jCons (jVar 0) (jCons (jVar 1) (jNil))))) (kName 2))
    (jSeq (jAsg (jCB list1 (jCons (jCall sp_l_key [] noEx (jCons (jVar 0) (jCons (jC (.int 0)) (jNil)))) (jNil))) (kName 3))
    (jSeq (jIfS (jTest (jOp eq2 (jCall sp_l_take [] noEx (jCons (jVar 0) (jCons (jC (.int 2)) (jNil)))) (jC (.int 0))))
    (jAsg (jOp add2 (jVar 1) (jC (.int 1))) (kName 2))
    (jNext))
    (jRet (jLc (iR1 (jCons (jVar 1) (jNil))) (kName 4) (jYes) (jCB tuple1 (jCons (jOp add2 (jSl (jVar 3) jNoPart (jPart (jC (.int 3)))) (jLst (jCons (jOp add2 (jC (.str ("k" : Str))) (jCB str1 (jCons (jOp mod2 (jCB int1 (jCons (jVar 4) (jNil))) (jVar 2)) (jNil)))) (jNil)))) (jNil))) [4]))))
def t_l_spine (sp_l_even : Sp2) (sp_l_plain_keys : Sp2) (sp_l_between : Sp2) (sp_l_take : Sp2) : TS2 :=
    jSeq (jAsg (jTup (jNil)) (kName 1))
    (jSeq (jAsg (jCall sp_l_even [] noEx (jCons (jCall sp_l_plain_keys [] noEx (jCons (jVar 0) (jCons (jCall sp_l_take [] noEx (jCons (jVar 0) (jCons (jC (.int 8)) (jNil)))) (jNil)))) (jNil))) (kName 2))
    (jSeq (jFor (iR1 (jCons (jCall sp_l_between [] noEx (jCons (jVar 0) (jCons (jC (.int 0)) (jCons (jC (.int 50)) (jNil))))) (jNil))) (kName 3)
    (jSeq (jAsg (jTup (jCons (jC (.str ("s" : Str))) (jCons (jCB str1 (jCons (jVar 3) (jNil))) (jNil)))) (kName 4))
    (jIfS (jTest (jOp eq2 (jCall sp_l_take [] noEx (jCons (jVar 0) (jCons (jC (.int 2)) (jNil)))) (jC (.int 0))))
    (jAsg (jTup (jCons (jVar 1) (jCons (jVar 4) (jCons (jVar 2) (jNil))))) (kName 1))
    (jAsg (jTup (jCons (jVar 2) (jCons (jVar 4) (jCons (jVar 1) (jNil))))) (kName 1)))))
    (jRet (jVar 1))))
def t_l_any_shape (sp_l_take : Sp2) (sp_l_even : Sp2) (sp_l_shape : Sp2) (sp_l_spine : Sp2) (sp_l_plain_keys : Sp2) (sp_l_bent_shape : Sp2) (sp_l_between : Sp2) : TS2 :=
    jSeq (jAsg (jCall sp_l_take [] noEx (jCons (jVar 0) (jCons (jC (.int 10)) (jNil)))) (kName 1))
    (jSeq (jIfS (jTest (jOp lt2 (jVar 1) (jC (.int 5))))
    (jRet (jCall sp_l_shape [] noEx (jCons (jVar 0) (jNil))))
    (jNext))
    (jSeq (jIfS (jTest (jOp eq2 (jVar 1) (jC (.int 5))))
    (jRet (jCall sp_l_spine [] noEx (jCons (jVar 0) (jNil))))
    (jNext))
    (jSeq (jAsg (jCall sp_l_even [] noEx (jCons (jCall sp_l_plain_keys [] noEx (jCons (jVar 0) (jCons (jCall sp_l_between [] noEx (jCons (jVar 0) (jCons (jC (.int 0)) (jCons (jC (.int 40)) (jNil))))) (jNil)))) (jNil))) (kName 2))
    (jSeq (jIfS (jTest (jOp eq2 (jVar 1) (jC (.int 6))))
    (jAsg (jCall sp_l_even [] noEx (jCons (jCall sp_l_plain_keys [] noEx (jCons (jVar 0) (jCons (jCall sp_l_between [] noEx (jCons (jVar 0) (jCons (jC (.int 0)) (jCons (jC (.int 396)) (jNil))))) (jNil)))) (jNil))) (kName 2))
    (jNext))
    (jSeq (jIfS (jTest (jOp lt2 (jVar 1) (jC (.int 9))))
    (jRet (jCall sp_l_bent_shape [] noEx (jCons (jVar 0) (jCons (jVar 2) (jNil)))))
    (jNext))
    (jRet (jVar 2)))))))
def t_l_judged (sp_l_measured : Sp2) (sp_l_same : Sp2) (sp_is_balanced : Sp2) (sp_shape_height : Sp2) (sp_shape_keys : Sp2) : TS2 :=
    jSeq (jAsg (jCall sp_l_measured [] noEx (jCons (jVar 0) (jNil))) (kName 1))
    (jSeq (jAsg (jLst (jCons (jCall sp_is_balanced [] noEx (jCons (jVar 0) (jNil))) (jCons (jCall sp_shape_height [] noEx (jCons (jVar 0) (jNil))) (jCons (jCall sp_shape_keys [] noEx (jCons (jVar 0) (jNil))) (jNil))))) (kName 2))
    (jSeq (jIfS (jNot (jTest (jCall sp_l_same [] noEx (jCons (jVar 2) (jCons (jLst (jCons (jOp ix2 (jVar 1) (jC (.int 2))) (jCons (jOp ix2 (jVar 1) (jC (.int 0))) (jCons (jOp ix2 (jVar 1) (jC (.int 3))) (jNil))))) (jNil))))))
    (jRet (jC (.bl false)))
    (jNext))
    (jSeq (jAsg (jOp ix2 (jVar 2) (jC (.int 2))) (kName 3))
    (jSeq (jDrop (jBM "list" append1 (jVar 3) (jCons (jTup (jCons (jC (.str ("z" : Str))) (jNil))) (jNil))))
    (jSeq (jDrop (jBM0 "list" reverse1 (jVar 3)))
    (jSeq (jAsg (jLst (jCons (jCall sp_is_balanced [] noEx (jCons (jVar 0) (jNil))) (jCons (jCall sp_shape_height [] noEx (jCons (jVar 0) (jNil))) (jCons (jCall sp_shape_keys [] noEx (jCons (jVar 0) (jNil))) (jNil))))) (kName 2))
    (jRet (jCall sp_l_same [] noEx (jCons (jVar 2) (jCons (jLst (jCons (jOp ix2 (jVar 1) (jC (.int 2))) (jCons (jOp ix2 (jVar 1) (jC (.int 0))) (jCons (jOp ix2 (jVar 1) (jC (.int 3))) (jNil))))) (jNil)))))))))))
def t_law (sp_l_store : Sp2) (sp_l_any_shape : Sp2) (sp_l_judged : Sp2) : TS2 :=
    jSeq (jAsg (jCall sp_l_store [] noEx (jCons (jVar 0) (jNil))) (kName 1))
    (jSeq (jAsg (jCall sp_l_any_shape [] noEx (jCons (jVar 1) (jNil))) (kName 2))
    (jSeq (jAsg (jCall sp_l_any_shape [] noEx (jCons (jVar 1) (jNil))) (kName 3))
    (jSeq (jAsg (jLst (jCons (jVar 2) (jCons (jVar 3) (jCons (jVar 2) (jNil))))) (kName 4))
    (jSeq (jFor (iL (jLst (jCons (jVar 2) (jCons (jVar 3) (jNil))))) (kName 5)
    (jIfS (jTest (jOp ne2 (jVar 5) (jTup (jNil))))
    (jAsg (jOp add2 (jVar 4) (jLst (jCons (jOp ix2 (jVar 5) (jC (.int 0))) (jCons (jOp ix2 (jVar 5) (jC (.int 2))) (jNil))))) (kName 4))
    (jNext)))
    (jSeq (jFor (iL (jOp add2 (jVar 4) (jLst (jCons (jVar 3) (jNil))))) (kName 5)
    (jIfS (jNot (jTest (jCall sp_l_judged [] noEx (jCons (jVar 5) (jNil)))))
    (jRet (jC (.bl false)))
    (jNext)))
    (jRet (jC (.bl true))))))))

/-! ### the draws -/
def stO (cs : List Int) (pl dg st tk : Int) : MO := .lst [.lst (cs.map D.int), .int pl, .int dg, .int st, .int tk]
def IsSt (m : MO) : Prop := ∃ (cs : List Int) (pl : Nat) (dg st tk : Int), m = stO cs pl dg st tk ∧ cs.length ≤ 63 ∧ 0 ≤ dg ∧ 0 ≤ st ∧ st < 2147483647
def sp_l_store : Sp2 := fun ds μ Q _ => ∃ ns : List Int, ds = [.rol (ns.map D.int)] ∧ ns.length ≤ 63 ∧ ∀ (p : Addr) (m : MO), μ p = none → IsSt m → Q (.ref p) (mup μ p m)
theorem len_l_store (ds : List D) (μ : Mu) (Q : QE) (ex : Ex2) (h : sp_l_store ds μ Q ex) : ds.length = 1 := by
  obtain ⟨ns, rfl, _⟩ := h
  rfl
theorem pure_l_store (ds : List D) (μ : Mu) (Q : QE) (ex : Ex2) (h : sp_l_store ds μ Q ex) : t_l_store (ends Q) (startD ["a", "b", "c", "d"] ds) μ := by
  obtain ⟨ns, rfl, hn, q⟩ := h
  unfold t_l_store
  show jSeq _ _ (ends Q) [some _, none, none, none] μ
  walk_at "js"
  refine .f ?_
  walk_at "js"
  refine loop_inv (fun r δ μ' => μ' = μ ∧ (∃ rs : List Int, r = rs.map D.int) ∧ ∃ (k : Int) (x : Option D), 0 ≤ k ∧ (r = [] → k < 2147483647) ∧ δ = [some (D.rol (ns.map D.int)), some (D.lst (ns.map D.int)), some (.int k), x]) (fun _ _ _ _ => trivial) ?_ ?_ _ _ _ ⟨rfl, ⟨ns, rfl⟩, _, _, by omega, fun h => by simp at h; subst h; decide, rfl⟩
  · rintro x r δ μ' ⟨rfl, ⟨rs, hr⟩, k, y, hk, _, rfl⟩ QN hN
    cases rs with
    | nil => cases hr
    | cons z rs =>
      cases hr
      walk_at "js"
      exact hN _ _ ⟨rfl, ⟨rs, rfl⟩, _, _, Int.emod_nonneg _ (by decide), fun _ => Int.emod_lt_of_pos _ (by decide), rfl⟩
  · rintro δ μ' ⟨rfl, _, k, y, hk, hk2, rfl⟩
    walk_at "js"
    refine .m fun p hp => ?_
    exact .of (q p _ hp ⟨ns, 0, 0, k, 0, rfl, hn, by decide, hk, hk2 rfl⟩)
def sp_l_take : Sp2 := fun ds μ Q _ => ∃ (s : Addr) (n : Int) (m : MO), ds = [.ref s, .int n] ∧ μ s = some m ∧ IsSt m ∧ n < 2 ^ 200 ∧ ∀ (r : Int) (m' : MO), IsSt m' → 0 ≤ r → (n < 2 → r = 0) → (2 ≤ n → r < n) → Q (.int r) (mup μ s m')
theorem len_l_take (ds : List D) (μ : Mu) (Q : QE) (ex : Ex2) (h : sp_l_take ds μ Q ex) : ds.length = 2 := by
  obtain ⟨s, n, m, rfl, _⟩ := h
  rfl
theorem div_ok {n : Int} (h0 : 2 ≤ n) (h : n < 2 ^ 200) : n.natAbs.log2 < 9000 := by
  have hb : n.natAbs < 2 ^ 200 := by omega
  exact Nat.lt_of_lt_of_le (PySem.Flt.log2_lt_of (by decide) hb) (by decide)
theorem pure_l_take (ds : List D) (μ : Mu) (Q : QE) (ex : Ex2) (h : sp_l_take ds μ Q ex) : t_l_take (ends Q) (startD ["a", "b", "c", "d", "e", "f", "g", "h"] ds) μ := by
  obtain ⟨s, n, m, rfl, hs, ⟨cs, pl, dg, st, tk, rfl, hcs, hdg, hst, hst2⟩, hn, q⟩ := h
  unfold t_l_take
  show jSeq _ _ (ends Q) [some _, some _, none, none, none, none, none, none] μ
  unfold stO at hs
  walk_at "js"
  refine w_ifd (fun hc => ?_) (fun hc => ?_)
  · walk_at "js"
    have e := q 0 (stO cs pl dg st tk) ⟨cs, pl, dg, st, tk, rfl, hcs, hdg, hst, hst2⟩ (by decide) (fun _ => rfl) (fun h => by omega)
    rw [mup_self (show μ s = some (stO cs pl dg st tk) from hs)] at e
    exact .of e
  have hn2 : 2 ≤ n := by omega
  walk_at "js"
  refine w_ifd (fun hc2 => ?_) (fun hc2 => ?_)
  · walk_at "js"
    refine x_fdiv (by omega) (div_ok hn2 hn) ?_
    walk_at "js"
    exact .of (q _ _ ⟨cs, pl, dg / n, st, tk, rfl, hcs, Int.ediv_nonneg hdg (by omega), hst, hst2⟩ (Int.emod_nonneg _ (by omega)) (fun h => by omega) (fun _ => Int.emod_lt_of_pos _ (by omega)))
  walk_at "js"
  refine w_ifd (fun hc3 => ?_) (fun hc3 => ?_)
  · rw [List.length_map] at hc3
    have hpl : pl < cs.length := by omega
    walk_at "js"
    refine x_ixL (atI_some (by rw [List.getElem?_map, List.getElem?_eq_getElem hpl]; rfl)) ?_
    generalize cs[pl] = z
    walk_at "js"
    refine w_ifd (fun hc4 => ?_) (fun hc4 => ?_)
    · walk_at "js"
      refine x_fdiv (by omega) (div_ok hn2 hn) ?_
      walk_at "js"
      have h10 : (10 : Int) ^ Int.toNat 18 = 1000000000000000000 := by decide
      rw [h10] at hc4
      rw [mup_mup, mup_mup]
      exact .of (q _ _ ⟨cs, pl + 1, z / n, st, tk + 1, rfl, hcs, Int.ediv_nonneg (by omega) (by omega), hst, hst2⟩ (Int.emod_nonneg _ (by omega)) (fun h => by omega) (fun _ => Int.emod_lt_of_pos _ (by omega)))
    · walk_at "js"
      rw [mup_mup]
      have h1 := Int.emod_nonneg (z * 48271 + (tk + 1) * 69621 + 104729) (show (2147483647 : Int) ≠ 0 by decide)
      have h2 := Int.emod_lt_of_pos (z * 48271 + (tk + 1) * 69621 + 104729) (show (0 : Int) < 2147483647 by decide)
      generalize (z * 48271 + (tk + 1) * 69621 + 104729) % 2147483647 = x at *
      refine x_mulR ⟨by omega, by omega⟩ ?_
      walk_at "js"
      exact .of (q _ _ ⟨cs, pl + 1, dg, st, tk + 1, rfl, hcs, hdg, hst, hst2⟩ (Int.emod_nonneg _ (by omega)) (fun h => by omega) (fun _ => Int.emod_lt_of_pos _ (by omega)))
  · walk_at "js"
    rw [mup_mup]
    have h1 := Int.emod_nonneg (st * 48271 + (tk + 1) * 69621 + 1) (show (2147483647 : Int) ≠ 0 by decide)
    have h2 := Int.emod_lt_of_pos (st * 48271 + (tk + 1) * 69621 + 1) (show (0 : Int) < 2147483647 by decide)
    generalize (st * 48271 + (tk + 1) * 69621 + 1) % 2147483647 = x at *
    refine x_mulR ⟨by omega, by omega⟩ ?_
    walk_at "js"
    exact .of (q _ _ ⟨cs, pl, dg, x, tk + 1, rfl, hcs, hdg, h1, h2⟩ (Int.emod_nonneg _ (by omega)) (fun h => by omega) (fun _ => Int.emod_lt_of_pos _ (by omega)))

/-! ### shapes -/
inductive Sh where
  | lf | nd (l : Sh) (k : List Str) (r : Sh)
def okS (x : Str) : Str := if PySem.PyData.strOk x = true then x else ""
def keyT (k : List Str) : D := .tup ((k.take 9).map fun x => .str (okS x))
theorem keyT_eq {k : List Str} (h : k.length ≤ 9) (hk : ∀ x ∈ k, PySem.PyData.strOk x = true) : D.tup (k.map D.str) = keyT k := by
  unfold keyT
  rw [List.take_of_length_le h]
  refine congrArg D.tup (List.map_congr_left fun x hx => ?_)
  show D.str x = D.str (okS x)
  unfold okS
  rw [if_pos (hk x hx)]
theorem okS_ok (x : Str) : PySem.PyData.strOk (okS x) = true := by
  unfold okS
  cases h : PySem.PyData.strOk x with
  | true => rw [if_pos rfl]; exact h
  | false => rw [if_neg Bool.false_ne_true]; decide +kernel
theorem strOk_append {x y : Str} (h : PySem.PyData.strOk x = true) (h2 : PySem.PyData.strOk y = true) : PySem.PyData.strOk (x ++ y) = true := by
  unfold PySem.PyData.strOk at *
  rw [Str.cps_append, Array.all_append, h, h2]; rfl
theorem strOk_num : ∀ n : Fin 400, PySem.PyData.strOk (PySem.Str.ofString (toString ((n.1 : Nat) : Int))) = true := by decide +kernel
def Sh.d : Sh → D
  | .lf => .tup []
  | .nd l k r => .tup [l.d, keyT k, r.d]
def Sh.ht : Sh → Nat
  | .lf => 0
  | .nd l _ r => max l.ht r.ht + 1
def Sh.sz : Sh → Nat
  | .lf => 0
  | .nd l _ r => l.sz + r.sz + 1
def Sh.ok : Sh → Bool
  | .lf => true
  | .nd l _ r => l.ok && (r.ok && decide (l.ht ≤ r.ht + 1 ∧ r.ht ≤ l.ht + 1))
def Sh.ks : Sh → List (List Str)
  | .lf => []
  | .nd l k r => l.ks ++ k :: r.ks
def Sh.bh (s : Sh) : Int := if s.ok = true then (s.ht : Int) else -1
theorem abs_gt (a b : Nat) : ((if (a : Int) - b < 0 then -((a : Int) - b) else (a : Int) - b) > 1) ↔ ¬ (a ≤ b + 1 ∧ b ≤ a + 1) := by split <;> omega
theorem Sh.ks_len : ∀ s : Sh, s.ks.length = s.sz
  | .lf => rfl
  | .nd l k r => by simp [Sh.ks, Sh.sz, Sh.ks_len l, Sh.ks_len r]; omega
theorem Sh.bh_neg {s : Sh} : s.bh < 0 ↔ s.ok = false := by
  unfold Sh.bh
  cases s.ok with
  | true => simp
  | false => simp
theorem Sh.bh_ok {s : Sh} (h : ¬ s.bh < 0) : s.ok = true ∧ s.bh = s.ht := by
  rw [Sh.bh_neg] at h
  have e : s.ok = true := by simpa using h
  exact ⟨e, if_pos e⟩
def spn_balanced_height (n : Nat) : Sp2 := fun ds μ Q _ => ∃ sh : Sh, ds = [sh.d] ∧ sh.ht ≤ n ∧ Q (.int sh.bh) μ
theorem len_balanced_height (n : Nat) (ds : List D) (μ : Mu) (Q : QE) (ex : Ex2) (h : spn_balanced_height n ds μ Q ex) : ds.length = 1 := by
  obtain ⟨sh, rfl, _⟩ := h
  rfl
theorem core_balanced_height {n : Nat} {sp : Sp2} (hs : ∀ (sh : Sh) (Q : QE) (μ : Mu) (ex : Ex2), sh.ht + 1 ≤ n → Q (.int sh.bh) μ → sp [sh.d] μ Q ex) (sh : Sh) (hn : sh.ht ≤ n) (μ : Mu) (Q : QE) (q : Q (.int sh.bh) μ) : t_balanced_height sp (ends Q) [some sh.d, none, none] μ := by
  unfold t_balanced_height
  cases sh with
  | lf =>
    show jSeq _ _ (ends Q) [some (.tup []), none, none] μ
    walk_at "js"
    refine w_ifd (fun _ => ?_) (fun h => absurd rfl h)
    walk_at "js"
    exact .of q
  | nd l k r =>
    have h1 : l.ht + 1 ≤ n := by unfold Sh.ht at hn; omega
    have h2 : r.ht + 1 ≤ n := by unfold Sh.ht at hn; omega
    show jSeq _ _ (ends Q) [some (.tup [l.d, keyT k, r.d]), none, none] μ
    walk_at "js"
    refine w_ifd (fun h => nomatch h) (fun _ => ?_)
    walk_at "js"
    refine hs l _ _ _ h1 (.of ?_)
    walk_at "js"
    refine w_ifd (fun h => ?_) (fun h => ?_)
    · walk_at "js"
      have e : (Sh.nd l k r).bh = -1 := if_neg (by unfold Sh.ok; rw [Sh.bh_neg.mp h]; simp)
      rw [e] at q
      exact .of q
    obtain ⟨o1, e1⟩ := Sh.bh_ok h
    walk_at "js"
    refine hs r _ _ _ h2 (.of ?_)
    walk_at "js"
    refine w_ifd (fun h => ?_) (fun h => ?_)
    · refine w_true ?_
      walk_at "js"
      have e : (Sh.nd l k r).bh = -1 := if_neg (by unfold Sh.ok; rw [Sh.bh_neg.mp h]; simp)
      rw [e] at q
      exact .of q
    obtain ⟨o2, e2⟩ := Sh.bh_ok h
    rw [e1, e2]
    walk_at "js"
    refine w_ifd (fun h => ?_) (fun h => ?_)
    · walk_at "js"
      have e : (Sh.nd l k r).bh = -1 := if_neg (by unfold Sh.ok; rw [o1, o2, decide_eq_false ((abs_gt _ _).mp h)]; simp)
      rw [e] at q
      exact .of q
    · walk_at "js"
      have e : (Sh.nd l k r).bh = (if (r.ht : Int) > (l.ht : Int) then (r.ht : Int) else l.ht) + 1 := by
        have : (Sh.nd l k r).ok = true := by unfold Sh.ok; rw [o1, o2, decide_eq_true (by have h := mt (abs_gt l.ht r.ht).mpr h; omega)]; rfl
        unfold Sh.bh
        rw [if_pos this]
        show ((max l.ht r.ht + 1 : Nat) : Int) = _
        split <;> omega
      rw [e] at q
      exact .of q
theorem pure_balanced_height_0 (ds : List D) (μ : Mu) (Q : QE) (ex : Ex2) (h : spn_balanced_height 0 ds μ Q ex) : t_balanced_height (fun _ _ _ _ => False) (ends Q) (startD ["a", "b", "c"] ds) μ := by
  obtain ⟨sh, rfl, hn, q⟩ := h
  exact core_balanced_height (n := 0) (fun _ _ _ _ h => by omega) sh hn μ Q q
theorem pure_balanced_height_s (n : Nat) (ds : List D) (μ : Mu) (Q : QE) (ex : Ex2) (h : spn_balanced_height (n + 1) ds μ Q ex) : t_balanced_height (spn_balanced_height n) (ends Q) (startD ["a", "b", "c"] ds) μ := by
  obtain ⟨sh, rfl, hn, q⟩ := h
  exact core_balanced_height (n := n + 1) (fun sh Q μ ex h q => ⟨sh, rfl, by omega, q⟩) sh hn μ Q q
def sp_balanced_height : Sp2 := spn_balanced_height 62
def sp_is_balanced : Sp2 := fun ds μ Q _ => ∃ sh : Sh, ds = [sh.d] ∧ sh.ht ≤ 62 ∧ Q (.bl sh.ok) μ
theorem len_is_balanced (ds : List D) (μ : Mu) (Q : QE) (ex : Ex2) (h : sp_is_balanced ds μ Q ex) : ds.length = 1 := by
  obtain ⟨sh, rfl, _⟩ := h
  rfl
theorem pure_is_balanced (ds : List D) (μ : Mu) (Q : QE) (ex : Ex2) (h : sp_is_balanced ds μ Q ex) : t_is_balanced sp_balanced_height (ends Q) (startD ["a"] ds) μ := by
  obtain ⟨sh, rfl, hn, q⟩ := h
  unfold t_is_balanced
  show jRet _ (ends Q) [some sh.d] μ
  walk_at "js"
  refine ⟨sh, rfl, hn, .of ?_⟩
  walk_at "js"
  have e : decide (sh.bh ≥ 0) = sh.ok := by
    cases h : sh.ok with
    | true => exact decide_eq_true (by unfold Sh.bh; rw [if_pos h]; omega)
    | false => exact decide_eq_false (by have := Sh.bh_neg.mpr h; omega)
  rw [e]
  exact .of q
/-! ### the height -/
def spn_shape_height (n : Nat) : Sp2 := fun ds μ Q _ => ∃ sh : Sh, ds = [sh.d] ∧ sh.ht ≤ n ∧ Q (.int sh.ht) μ
theorem len_shape_height (n : Nat) (ds : List D) (μ : Mu) (Q : QE) (ex : Ex2) (h : spn_shape_height n ds μ Q ex) : ds.length = 1 := by
  obtain ⟨sh, rfl, _⟩ := h
  rfl
theorem core_shape_height {n : Nat} {sp : Sp2} (hs : ∀ (sh : Sh) (Q : QE) (μ : Mu) (ex : Ex2), sh.ht + 1 ≤ n → Q (.int sh.ht) μ → sp [sh.d] μ Q ex) (sh : Sh) (hn : sh.ht ≤ n) (μ : Mu) (Q : QE) (q : Q (.int sh.ht) μ) : t_shape_height sp (ends Q) [some sh.d] μ := by
  unfold t_shape_height
  cases sh with
  | lf =>
    show jSeq _ _ (ends Q) [some (.tup [])] μ
    walk_at "js"
    refine w_ifd (fun _ => ?_) (fun h => absurd rfl h)
    walk_at "js"
    exact .of q
  | nd l k r =>
    have h1 : l.ht + 1 ≤ n := by unfold Sh.ht at hn; omega
    have h2 : r.ht + 1 ≤ n := by unfold Sh.ht at hn; omega
    show jSeq _ _ (ends Q) [some (.tup [l.d, keyT k, r.d])] μ
    walk_at "js"
    refine w_ifd (fun h => nomatch h) (fun _ => ?_)
    walk_at "js"
    refine hs l _ _ _ h1 (.of ?_)
    walk_at "js"
    refine hs r _ _ _ h2 (.of ?_)
    walk_at "js"
    have e : ((Sh.nd l k r).ht : Int) = (if (r.ht : Int) > (l.ht : Int) then (r.ht : Int) else l.ht) + 1 := by
      show ((max l.ht r.ht + 1 : Nat) : Int) = _
      split <;> omega
    rw [e] at q
    exact .of q
theorem pure_shape_height_0 (ds : List D) (μ : Mu) (Q : QE) (ex : Ex2) (h : spn_shape_height 0 ds μ Q ex) : t_shape_height (fun _ _ _ _ => False) (ends Q) (startD ["a"] ds) μ := by
  obtain ⟨sh, rfl, hn, q⟩ := h
  exact core_shape_height (n := 0) (fun _ _ _ _ h => by omega) sh hn μ Q q
theorem pure_shape_height_s (n : Nat) (ds : List D) (μ : Mu) (Q : QE) (ex : Ex2) (h : spn_shape_height (n + 1) ds μ Q ex) : t_shape_height (spn_shape_height n) (ends Q) (startD ["a"] ds) μ := by
  obtain ⟨sh, rfl, hn, q⟩ := h
  exact core_shape_height (n := n + 1) (fun sh Q μ ex h q => ⟨sh, rfl, by omega, q⟩) sh hn μ Q q
def sp_shape_height : Sp2 := spn_shape_height 62
/-! ### the keys -/
def spn_collect_keys (n : Nat) : Sp2 := fun ds μ Q _ => ∃ (sh : Sh) (p : Addr) (xs : List D), ds = [sh.d, .ref p] ∧ μ p = some (.lst xs) ∧ sh.ht ≤ n ∧ xs.length + sh.sz < 100000 ∧ Q .non (mup μ p (.lst (xs ++ sh.ks.map keyT)))
theorem len_collect_keys (n : Nat) (ds : List D) (μ : Mu) (Q : QE) (ex : Ex2) (h : spn_collect_keys n ds μ Q ex) : ds.length = 2 := by
  obtain ⟨sh, p, xs, rfl, _⟩ := h
  rfl
theorem core_collect_keys {n : Nat} {sp : Sp2} (hs : ∀ (sh : Sh) (p : Addr) (xs : List D) (Q : QE) (μ : Mu) (ex : Ex2), sh.ht + 1 ≤ n → μ p = some (.lst xs) → xs.length + sh.sz < 100000 → Q .non (mup μ p (.lst (xs ++ sh.ks.map keyT))) → sp [sh.d, .ref p] μ Q ex)
    (sh : Sh) (p : Addr) (xs : List D) (hn : sh.ht ≤ n) (μ : Mu) (Q : QE) (hp : μ p = some (.lst xs)) (hx : xs.length + sh.sz < 100000) (q : Q .non (mup μ p (.lst (xs ++ sh.ks.map keyT)))) : t_collect_keys sp (ends Q) [some sh.d, some (.ref p), none, none, none] μ := by
  unfold t_collect_keys
  cases sh with
  | lf =>
    show jSeq _ _ (ends Q) [some (.tup []), some _, none, none, none] μ
    walk_at "js"
    refine w_ifd (fun _ => ?_) (fun h => absurd rfl h)
    walk_at "js"
    have e : mup μ p (.lst (xs ++ Sh.lf.ks.map keyT)) = μ := by
      show mup μ p (.lst (xs ++ [])) = μ
      rw [List.append_nil, mup_self hp]
    rw [e] at q
    exact .of q
  | nd l k r =>
    have h1 : l.ht + 1 ≤ n := by unfold Sh.ht at hn; omega
    have h2 : r.ht + 1 ≤ n := by unfold Sh.ht at hn; omega
    have hz : (Sh.nd l k r).sz = l.sz + r.sz + 1 := rfl
    have hl : (l.ks.map keyT).length = l.sz := by rw [List.length_map, Sh.ks_len]
    have hszl := sizeLine_eq
    show jSeq _ _ (ends Q) [some (.tup [l.d, keyT k, r.d]), some _, none, none, none] μ
    walk_at "js"
    refine w_ifd (fun h => nomatch h) (fun _ => ?_)
    walk_at "js"
    refine hs l p xs _ _ _ h1 hp (by omega) (.of ?_)
    walk_at "js"
    refine x_append mup_same (by rw [List.length_append, hl]; omega) ?_
    rw [mup_mup]
    walk_at "js"
    refine hs r p _ _ _ _ h2 mup_same (by rw [List.length_append, List.length_append, hl, List.length_singleton]; omega) (.of ?_)
    rw [mup_mup]
    have e : xs ++ (Sh.nd l k r).ks.map keyT = xs ++ l.ks.map keyT ++ [keyT k] ++ r.ks.map keyT := by
      show xs ++ (l.ks ++ k :: r.ks).map keyT = _
      simp
    rw [e] at q
    exact .of q
theorem pure_collect_keys_0 (ds : List D) (μ : Mu) (Q : QE) (ex : Ex2) (h : spn_collect_keys 0 ds μ Q ex) : t_collect_keys (fun _ _ _ _ => False) (ends Q) (startD ["a", "b", "c", "d", "e"] ds) μ := by
  obtain ⟨sh, p, xs, rfl, hp, hn, hx, q⟩ := h
  exact core_collect_keys (n := 0) (fun _ _ _ _ _ _ h => by omega) sh p xs hn μ Q hp hx q
theorem pure_collect_keys_s (n : Nat) (ds : List D) (μ : Mu) (Q : QE) (ex : Ex2) (h : spn_collect_keys (n + 1) ds μ Q ex) : t_collect_keys (spn_collect_keys n) (ends Q) (startD ["a", "b", "c", "d", "e"] ds) μ := by
  obtain ⟨sh, p, xs, rfl, hp, hn, hx, q⟩ := h
  exact core_collect_keys (n := n + 1) (fun sh p xs Q μ ex h hp hx q => ⟨sh, p, xs, rfl, hp, by omega, hx, q⟩) sh p xs hn μ Q hp hx q
def sp_collect_keys : Sp2 := spn_collect_keys 62
def sp_shape_keys : Sp2 := fun ds μ Q _ => ∃ sh : Sh, ds = [sh.d] ∧ sh.ht ≤ 62 ∧ sh.sz < 100000 ∧ ∀ p, μ p = none → Q (.ref p) (mup μ p (.lst (sh.ks.map keyT)))
theorem len_shape_keys (ds : List D) (μ : Mu) (Q : QE) (ex : Ex2) (h : sp_shape_keys ds μ Q ex) : ds.length = 1 := by
  obtain ⟨sh, rfl, _⟩ := h
  rfl
theorem pure_shape_keys (ds : List D) (μ : Mu) (Q : QE) (ex : Ex2) (h : sp_shape_keys ds μ Q ex) : t_shape_keys sp_collect_keys (ends Q) (startD ["a", "b"] ds) μ := by
  obtain ⟨sh, rfl, hn, hz, q⟩ := h
  unfold t_shape_keys
  show jSeq _ _ (ends Q) [some sh.d, none] μ
  walk_at "js"
  refine .m fun p hp => ?_
  walk_at "js"
  refine ⟨sh, p, [], rfl, mup_same, hn, by simpa using hz, .of ?_⟩
  rw [mup_mup]
  walk_at "js"
  exact .of (q p hp)
mutual
theorem keys_lay : ∀ l : List Str, PySem.PyData.canLayAll0 (D.pys (l.map fun x => .str (okS x))) = true
  | [] => rfl
  | x :: r => by
    show (PySem.PyData.strOk (okS x) && _) = true
    rw [okS_ok, Bool.true_and]
    exact keys_lay r
end
theorem keys_dep : ∀ l : List Str, PySem.PyData.depthAll (D.pys (l.map fun x => .str (okS x))) = 0
  | [] => rfl
  | x :: r => by
    show max 0 (PySem.PyData.depthAll (D.pys (r.map fun x => .str (okS x)))) = 0
    rw [keys_dep r]; rfl
theorem keys_pl : ∀ l : List Str, D.pls (l.map fun x => .str (okS x)) = true
  | [] => rfl
  | x :: r => keys_pl r
theorem sh_py : ∀ s : Sh, s.d.pl = true ∧ PySem.PyData.canLay0 s.d.py = true ∧ PySem.PyData.depth s.d.py ≤ s.ht + 1
  | .lf => ⟨rfl, rfl, Nat.le_refl _⟩
  | .nd l k r => by
    obtain ⟨a1, a2, a3⟩ := sh_py l
    obtain ⟨b1, b2, b3⟩ := sh_py r
    refine ⟨?_, ?_, ?_⟩
    · show (l.d.pl && (D.pls ((k.take 9).map fun x => .str (okS x)) && (r.d.pl && true))) = true
      rw [a1, b1, keys_pl]; rfl
    · show (PySem.PyData.canLay0 l.d.py && (PySem.PyData.canLayAll0 (D.pys ((k.take 9).map fun x => .str (okS x))) && (PySem.PyData.canLay0 r.d.py && true))) = true
      rw [a2, b2, keys_lay]; rfl
    · show max (PySem.PyData.depth l.d.py) (max (PySem.PyData.depthAll (D.pys ((k.take 9).map fun x => .str (okS x))) + 1) (max (PySem.PyData.depth r.d.py) 0)) + 1 ≤ max l.ht r.ht + 1 + 1
      rw [keys_dep]
      omega
theorem ne_sh {s : Sh} {μ : Mu} {Q : QE} (h : s.ht ≤ 62) (q : ∀ b : Bool, (b = true ↔ s ≠ .lf) → Q (.bl b) μ) : ne2 s.d (.tup []) μ Q := by
  obtain ⟨a1, a2, a3⟩ := sh_py s
  have e : eqD true s.d (.tup []) μ Q := by
    refine ⟨_, _, .f, .f, a1, rfl, ?_, by decide +kernel, ?_⟩
    · show (PySem.PyData.canLay0 s.d.py && decide _) = true
      rw [a2, decide_eq_true (by omega)]; rfl
    · cases s with
      | lf => exact q false ⟨fun h => (by cases h), fun h => absurd rfl h⟩
      | nd l k r => exact q true ⟨fun _ z => (by cases z), fun _ => rfl⟩
  cases s with
  | lf => exact e
  | nd l k r => exact e

/-! ### least seats -/
def ls : Nat → Nat
  | 0 => 0
  | 1 => 1
  | n + 2 => ls n + ls (n + 1) + 1
theorem ls_lt : ∀ n : Nat, ls n < ls (n + 1)
  | 0 => by decide
  | 1 => by decide
  | n + 2 => by
    have h := ls_lt n
    have h2 := ls_lt (n + 1)
    show ls (n + 2) < ls (n + 1) + ls (n + 2) + 1
    omega
theorem ls_mono {i j : Nat} (h : i ≤ j) : ls i ≤ ls j := by
  induction h with
  | refl => exact Nat.le_refl _
  | step h ih => exact Nat.le_trans ih (Nat.le_of_lt (ls_lt _))
theorem ls_step (n : Nat) : ((ls n : Nat) : Int) + (ls (n + 1) : Nat) + 1 = ((ls (n + 2) : Nat) : Int) := by
  show _ = ((ls n + ls (n + 1) + 1 : Nat) : Int)
  omega
/-! ### between -/
def sp_l_between : Sp2 := fun ds μ Q _ => ∃ (s : Addr) (m : MO) (a b : Int), ds = [.ref s, .int a, .int b] ∧ μ s = some m ∧ IsSt m ∧ a < b ∧ b - a < 2 ^ 100 ∧ ∀ (r : Int) (m' : MO), IsSt m' → a ≤ r → r ≤ b → Q (.int r) (mup μ s m')
theorem len_l_between (ds : List D) (μ : Mu) (Q : QE) (ex : Ex2) (h : sp_l_between ds μ Q ex) : ds.length = 3 := by
  obtain ⟨s, m, a, b, rfl, _⟩ := h
  rfl
theorem pure_l_between (ds : List D) (μ : Mu) (Q : QE) (ex : Ex2) (h : sp_l_between ds μ Q ex) : t_l_between sp_l_take (ends Q) (startD ["a", "b", "c", "d"] ds) μ := by
  obtain ⟨s, m, a, b, rfl, hs, hm, hab, hb, q⟩ := h
  unfold t_l_between
  show jSeq _ _ (ends Q) [some _, some _, some _, none] μ
  walk_at "js"
  refine w_ifd (fun h => by omega) (fun _ => ?_)
  walk_at "js"
  refine ⟨s, 9, m, rfl, hs, hm, by decide, fun r m1 hm1 h0 _ h9 => .of ?_⟩
  walk_at "js"
  refine w_ifd (fun h => ?_) (fun _ => ?_)
  · walk_at "js"
    exact .of (q _ m1 hm1 (by omega) (by omega))
  walk_at "js"
  refine w_ifd (fun h => ?_) (fun _ => ?_)
  · walk_at "js"
    exact .of (q _ m1 hm1 (by omega) (by omega))
  walk_at "js"
  refine w_ifd (fun h => ?_) (fun _ => ?_)
  · walk_at "js"
    exact .of (q _ m1 hm1 (by omega) (by omega))
  walk_at "js"
  refine ⟨s, _, m1, rfl, mup_same, hm1, by omega, fun r2 m2 hm2 h02 h1 h2 => .of ?_⟩
  rw [mup_mup]
  have := h2 (by omega)
  walk_at "js"
  exact .of (q _ m2 hm2 (by omega) (by omega))
/-! ### the leanest shape -/
def spn_l_least_shape (n : Nat) : Sp2 := fun ds μ Q _ => ∃ (h : Int) (lean : Bool), ds = [.int h, .bl lean] ∧ h ≤ n ∧ ∀ sh : Sh, sh.ht = h.toNat → sh.ok = true → sh.sz = ls h.toNat → Q sh.d μ
theorem len_l_least_shape (n : Nat) (ds : List D) (μ : Mu) (Q : QE) (ex : Ex2) (h : spn_l_least_shape n ds μ Q ex) : ds.length = 2 := by
  obtain ⟨h, l, rfl, _⟩ := h
  rfl
theorem core_l_least_shape {n : Nat} {sp : Sp2} (hs : ∀ (h : Int) (lean : Bool) (Q : QE) (μ : Mu) (ex : Ex2), h + 1 ≤ n → (∀ sh : Sh, sh.ht = h.toNat → sh.ok = true → sh.sz = ls h.toNat → Q sh.d μ) → sp [.int h, .bl lean] μ Q ex)
    (h : Int) (lean : Bool) (hn : h ≤ n) (μ : Mu) (Q : QE) (q : ∀ sh : Sh, sh.ht = h.toNat → sh.ok = true → sh.sz = ls h.toNat → Q sh.d μ) : t_l_least_shape sp (ends Q) [some (.int h), some (.bl lean), none, none] μ := by
  unfold t_l_least_shape
  walk_at "js"
  refine w_ifd (fun h0 => ?_) (fun h0 => ?_)
  · walk_at "js"
    have e : h.toNat = 0 := by omega
    exact .of (q .lf (by rw [e]; rfl) rfl (by rw [e]; rfl))
  walk_at "js"
  refine hs (h - 1) lean _ _ _ (by omega) fun a ha1 ha2 ha3 => .of ?_
  walk_at "js"
  refine hs (h - 2) lean _ _ _ (by omega) fun b hb1 hb2 hb3 => .of ?_
  have fa : ∀ l r : Sh, (l = a ∧ r = b) ∨ (l = b ∧ r = a) → Q (.tup [l.d, .tup [.str "a"], r.d]) μ := by
    intro l r hlr
    have ek : D.tup [D.str "a"] = keyT ["a"] := keyT_eq (k := ["a"]) (by decide) (by decide +kernel)
    rw [ek]
    refine q (.nd l ["a"] r) ?_ ?_ ?_
    · show max l.ht r.ht + 1 = _
      rcases hlr with ⟨rfl, rfl⟩ | ⟨rfl, rfl⟩ <;> omega
    · have : decide (l.ht ≤ r.ht + 1 ∧ r.ht ≤ l.ht + 1) = true := decide_eq_true (by rcases hlr with ⟨rfl, rfl⟩ | ⟨rfl, rfl⟩ <;> omega)
      show (l.ok && (r.ok && _)) = true
      rw [this]
      rcases hlr with ⟨rfl, rfl⟩ | ⟨rfl, rfl⟩ <;> rw [ha2, hb2] <;> rfl
    · show l.sz + r.sz + 1 = _
      have e : ls h.toNat = a.sz + b.sz + 1 := by
        rw [ha3, hb3]
        by_cases h1 : h = 1
        · subst h1; rfl
        · obtain ⟨k, rfl⟩ : ∃ k : Nat, h = (k : Int) + 2 := ⟨(h - 2).toNat, by omega⟩
          have e1 : ((k : Int) + 2).toNat = k + 2 := by omega
          have e2 : ((k : Int) + 2 - 1).toNat = k + 1 := by omega
          have e3 : ((k : Int) + 2 - 2).toNat = k := by omega
          rw [e1, e2, e3]
          show ls k + ls (k + 1) + 1 = _
          omega
      rw [e]
      rcases hlr with ⟨rfl, rfl⟩ | ⟨rfl, rfl⟩ <;> omega
  walk_at "js"
  refine w_if (fun _ => ?_) (fun _ => ?_)
  · walk_at "js"
    exact .of (fa a b (.inl ⟨rfl, rfl⟩))
  · walk_at "js"
    exact .of (fa b a (.inr ⟨rfl, rfl⟩))
theorem pure_l_least_shape_0 (ds : List D) (μ : Mu) (Q : QE) (ex : Ex2) (h : spn_l_least_shape 0 ds μ Q ex) : t_l_least_shape (fun _ _ _ _ => False) (ends Q) (startD ["a", "b", "c", "d"] ds) μ := by
  obtain ⟨h, l, rfl, hn, q⟩ := h
  unfold t_l_least_shape
  show jSeq _ _ (ends Q) [some _, some _, none, none] μ
  walk_at "js"
  refine w_ifd (fun h0 => ?_) (fun h0 => by omega)
  walk_at "js"
  have e : h.toNat = 0 := by omega
  exact .of (q .lf (by rw [e]; rfl) rfl (by rw [e]; rfl))
theorem pure_l_least_shape_s (n : Nat) (ds : List D) (μ : Mu) (Q : QE) (ex : Ex2) (h : spn_l_least_shape (n + 1) ds μ Q ex) : t_l_least_shape (spn_l_least_shape n) (ends Q) (startD ["a", "b", "c", "d"] ds) μ := by
  obtain ⟨h, l, rfl, hn, q⟩ := h
  exact core_l_least_shape (n := n + 1) (fun h l Q μ ex hn q => ⟨h, l, rfl, by omega, q⟩) h l hn μ Q q
def sp_l_least_shape : Sp2 := spn_l_least_shape 9

/-! ### words and keys -/
def sp_l_name : Sp2 := fun ds μ Q _ => ∃ (s : Addr) (m : MO), ds = [.ref s] ∧ μ s = some m ∧ IsSt m ∧ ∀ (w : Str) (m' : MO), IsSt m' → w.length ≤ 12 → PySem.PyData.strOk w = true → Q (.str w) (mup μ s m')
theorem len_l_name (ds : List D) (μ : Mu) (Q : QE) (ex : Ex2) (h : sp_l_name ds μ Q ex) : ds.length = 1 := by
  obtain ⟨s, m, rfl, _⟩ := h
  rfl
theorem sgn_at (z : Str) {r : Int} (h0 : 0 ≤ r) (h : r < z.length) : ∃ c, atI z.cps.toList r = some c := by
  obtain ⟨k, rfl⟩ := Int.eq_ofNat_of_zero_le h0
  have hk : k < z.cps.toList.length := by rw [Array.length_toList]; exact Int.ofNat_lt.mp h
  exact ⟨_, atI_nat (List.getElem?_eq_getElem hk)⟩
theorem atI_mem {α : Type} {xs : List α} {r : Int} {c : α} (h : atI xs r = some c) : c ∈ xs := by
  unfold atI at h
  cases e : ixN xs.length r with
  | none => rw [e] at h; cases h
  | some j => rw [e] at h; exact List.mem_of_getElem? h
theorem strOk_sgn {z : Str} {r : Int} {c : Nat} (h : PySem.PyData.strOk z = true) (e : atI z.cps.toList r = some c) : PySem.PyData.strOk ⟨#[c]⟩ = true := by
  unfold PySem.PyData.strOk at *
  have := Array.all_eq_true'.mp h c (by have := atI_mem e; simpa using this)
  simpa using this
theorem ok26 : PySem.PyData.strOk "abcdefghijklmnopqrstuvwxyz" = true := by decide +kernel
theorem ok36 : PySem.PyData.strOk "0123456789abcdefghijklmnopqrstuvwxyz" = true := by decide +kernel
theorem len26 : (("abcdefghijklmnopqrstuvwxyz" : Str).length : Int) = 26 := by decide +kernel
theorem len36 : (("0123456789abcdefghijklmnopqrstuvwxyz" : Str).length : Int) = 36 := by decide +kernel
theorem small_log {n : Nat} (h : n < 100000) : (n : Int).natAbs.log2 < 1920 := by
  have h2 : (n : Int).natAbs < 2 ^ 200 := by omega
  exact Nat.lt_of_lt_of_le (PySem.Flt.log2_lt_of (by decide) h2) (by decide)
theorem pure_l_name (ds : List D) (μ : Mu) (Q : QE) (ex : Ex2) (h : sp_l_name ds μ Q ex) : t_l_name sp_l_between sp_l_take (ends Q) (startD ["a", "b", "c", "d", "e"] ds) μ := by
  obtain ⟨s, m, rfl, hs, hm, q⟩ := h
  have hszl := sizeLine_eq
  unfold t_l_name
  show jSeq _ _ (ends Q) [some _, none, none, none, none] μ
  walk_at "js"
  refine ⟨s, m, 1, 12, rfl, hs, hm, by decide, by decide, fun z m1 hm1 hz hz2 => .of ?_⟩
  walk_at "js"
  refine ⟨s, 26, m1, rfl, mup_same, hm1, by decide, fun r m2 hm2 h0 _ h2 => .of ?_⟩
  rw [mup_mup]
  obtain ⟨c, hc⟩ := sgn_at "abcdefghijklmnopqrstuvwxyz" h0 (by rw [len26]; exact h2 (by decide))
  refine x_ixS (by decide +kernel) hc ?_
  walk_at "js"
  refine ⟨s, 3, m2, rfl, mup_same, hm2, by decide, fun r3 m3 hm3 _ _ _ => .of ?_⟩
  rw [mup_mup]
  walk_at "js"
  refine ⟨_, rfl, by unfold rngOk; omega, ?_⟩
  generalize decide (r3 = 0) = al
  refine loop_rng (fun k δ μ' => ∃ (w : Str) (m' : MO) (o : Option D), w.length = k + 1 ∧ PySem.PyData.strOk w = true ∧ IsSt m' ∧ μ' = mup μ s m' ∧ δ = [some (.ref s), some (.int z), some (.str w), some (.bl al), o]) (fun _ _ _ _ => trivial) ?_ ?_ _ _ ⟨⟨#[c]⟩, m3, none, rfl, strOk_sgn ok26 hc, hm3, rfl, rfl⟩
  · rintro k δ μ' hk ⟨w, m', o, hw, hok, hm', rfl, rfl⟩ QN hN
    walk_at "js"
    refine w_if (fun _ => ?_) (fun _ => ?_)
    · walk_at "js"
      obtain ⟨c, hc⟩ := sgn_at w (r := 0) (by decide) (by omega)
      refine x_ixS (by omega) hc ?_
      walk_at "js"
      refine x_addS (by show w.length + 1 ≤ _; omega) ?_
      walk_at "js"
      exact hN _ _ ⟨_, m', _, by rw [Str.length_append, hw]; rfl, strOk_append hok (strOk_sgn hok hc), hm', rfl, rfl⟩
    · walk_at "js"
      refine ⟨s, 36, m', rfl, mup_same, hm', by decide, fun r m2 hm2 h0 _ h2 => .of ?_⟩
      rw [mup_mup]
      obtain ⟨c, hc⟩ := sgn_at "0123456789abcdefghijklmnopqrstuvwxyz" h0 (by rw [len36]; exact h2 (by decide))
      refine x_ixS (by decide +kernel) hc ?_
      walk_at "js"
      refine x_addS (by show w.length + 1 ≤ _; omega) ?_
      walk_at "js"
      exact hN _ _ ⟨_, m2, _, by rw [Str.length_append, hw]; rfl, strOk_append hok (strOk_sgn ok36 hc), hm2, rfl, rfl⟩
  · rintro δ μ' ⟨w, m', o, hw, hok, hm', rfl, rfl⟩
    walk_at "js"
    exact .of (q w m' hm' (by omega) hok)
def sp_l_key : Sp2 := fun ds μ Q _ => ∃ (s : Addr) (m : MO) (n : Nat), ds = [.ref s, .int n] ∧ μ s = some m ∧ IsSt m ∧ n < 400 ∧ ∀ (ws : List Str) (m' : MO), IsSt m' → ws.length < 10 → (∀ x ∈ ws, PySem.PyData.strOk x = true) → Q (keyT ws) (mup μ s m')
theorem len_l_key (ds : List D) (μ : Mu) (Q : QE) (ex : Ex2) (h : sp_l_key ds μ Q ex) : ds.length = 2 := by
  obtain ⟨s, m, n, rfl, _⟩ := h
  rfl
theorem pick8 (a b c d e f g h : Str) {r : Int} (h0 : 0 ≤ r) (h1 : r < 8) : ∃ v, atI [D.str a, .str b, .str c, .str d, .str e, .str f, .str g, .str h] r = some (.str v) ∧ (v = a ∨ v = b ∨ v = c ∨ v = d ∨ v = e ∨ v = f ∨ v = g ∨ v = h) := by
  obtain rfl | rfl | rfl | rfl | rfl | rfl | rfl | rfl : r = 0 ∨ r = 1 ∨ r = 2 ∨ r = 3 ∨ r = 4 ∨ r = 5 ∨ r = 6 ∨ r = 7 := by omega
  all_goals exact ⟨_, rfl, by simp⟩
theorem pure_l_key (ds : List D) (μ : Mu) (Q : QE) (ex : Ex2) (h : sp_l_key ds μ Q ex) : t_l_key sp_l_between sp_l_take sp_l_name (ends Q) (startD ["a", "b", "c", "d", "e", "f", "g"] ds) μ := by
  obtain ⟨s, m, n, rfl, hs, hm, hn, q⟩ := h
  have hszl := sizeLine_eq
  unfold t_l_key
  show jSeq _ _ (ends Q) [some _, some _, none, none, none, none, none] μ
  walk_at "js"
  refine ⟨s, m, 1, 4, rfl, hs, hm, by decide, by decide, fun z m1 hm1 hz hz2 => .of ?_⟩
  walk_at "js"
  refine ⟨s, z, m1, rfl, mup_same, hm1, by omega, fun at_ m2 hm2 _ _ _ => .of ?_⟩
  rw [mup_mup]
  walk_at "js"
  refine .m fun p hp => ?_
  have hsp : s ≠ p := fun z => by rw [← z, mup_same] at hp; cases hp
  have hp0 : μ p = none := by rw [mup_ne (Ne.symm hsp)] at hp; exact hp
  walk_at "js"
  refine ⟨_, rfl, by unfold rngOk; omega, ?_⟩
  have hcm : ∀ (m3 m4 : MO) (C : MO), mup (mup (mup μ s m3) p C) s m4 = mup (mup μ s m4) p C := by
    intro m3 m4 C
    rw [mup_comm (Ne.symm hsp), mup_mup]
  refine loop_rng (fun k δ μ' => ∃ (ws : List Str) (m' : MO) (o u : Option D), ws.length = k ∧ (∀ x ∈ ws, PySem.PyData.strOk x = true) ∧ IsSt m' ∧ μ' = mup (mup μ s m') p (.lst (ws.map D.str)) ∧ δ = [some (.ref s), some (.int n), some (.int z), some (.int at_), some (.ref p), o, u]) (fun _ _ _ _ => trivial) ?_ ?_ _ _ ⟨[], m2, none, none, rfl, fun _ h => (List.not_mem_nil h).elim, hm2, rfl, rfl⟩
  · rintro k δ μ' hk ⟨ws, m', o, u, hw, hws, hm', rfl, rfl⟩ QN hN
    have fin : ∀ (w : Str) (m3 : MO), PySem.PyData.strOk w = true → IsSt m3 → QN [some (.ref s), some (.int n), some (.int z), some (.int at_), some (.ref p), some (.int k), some (.str w)] (mup (mup μ s m3) p (.lst (ws.map D.str ++ [.str w]))) := by
      intro w m3 hwo hm3
      have e : ws.map D.str ++ [D.str w] = (ws ++ [w]).map D.str := by simp
      rw [e]
      exact hN _ _ ⟨ws ++ [w], m3, _, _, by rw [List.length_append, hw]; rfl, fun x hx => (List.mem_append.mp hx).elim (hws x) fun h => by rw [List.mem_singleton.mp h]; exact hwo, hm3, rfl, rfl⟩
    have hl : (ws.map D.str).length < sizeLine := by rw [List.length_map]; omega
    walk_at "js"
    refine .f ?_
    walk_at "js"
    refine ⟨s, 8, m', rfl, (mup_ne hsp).trans mup_same, hm', by decide, fun r m3 hm3 h0 _ h2 => .of ?_⟩
    rw [hcm]
    obtain ⟨v, hv, hv2⟩ := pick8 "house" "arc" "" "a" "b" " " "x y" "\n" h0 (h2 (by decide))
    refine x_ixL hv ?_
    walk_at "js"
    refine w_ifd (fun _ => ?_) (fun _ => ?_)
    · walk_at "js"
      refine ⟨small_log (Nat.lt_trans hn (by decide)), ?_⟩
      walk_at "js"
      refine x_append mup_same hl ?_
      rw [mup_mup]
      exact fin _ m3 (strOk_num ⟨n, hn⟩) hm3
    · walk_at "js"
      refine ⟨s, 4, m3, rfl, (mup_ne hsp).trans mup_same, hm3, by decide, fun r m4 hm4 h0 _ h2 => .of ?_⟩
      rw [hcm]
      walk_at "js"
      refine w_ifd (fun _ => ?_) (fun _ => ?_)
      · walk_at "js"
        refine ⟨s, m4, rfl, (mup_ne hsp).trans mup_same, hm4, fun w m5 hm5 _ hwo => .of ?_⟩
        rw [hcm]
        walk_at "js"
        refine x_append mup_same hl ?_
        rw [mup_mup]
        exact fin _ m5 hwo hm5
      · walk_at "js"
        refine x_append mup_same hl ?_
        rw [mup_mup]
        exact fin _ m4 (by rcases hv2 with rfl | rfl | rfl | rfl | rfl | rfl | rfl | rfl <;> decide +kernel) hm4
  · rintro δ μ' ⟨ws, m', o, u, hw, hws, hm', rfl, rfl⟩
    walk_at "js"
    rw [keyT_eq (by omega) hws]
    refine .drop (μ' := mup μ s m') ?_ (q ws m' hm' (by omega) hws)
    intro b e he
    by_cases hb : b = p
    · subst hb
      rw [mup_ne (Ne.symm hsp), hp0] at he
      cases he
    · rw [mup_ne hb]; exact he

/-! ### the law's equality -/
def sp_l_is_integer : Sp2 := fun _ _ _ _ => False
theorem len_l_is_integer (ds : List D) (μ : Mu) (Q : QE) (ex : Ex2) (h : sp_l_is_integer ds μ Q ex) : ds.length = 1 := h.elim
theorem pure_l_is_integer (ds : List D) (μ : Mu) (Q : QE) (ex : Ex2) (h : sp_l_is_integer ds μ Q ex) : t_l_is_integer (ends Q) (startD ["a"] ds) μ := h.elim
def AtE (x y : D) : Prop := (∃ i, x = .int i ∧ y = .int i) ∨ (∃ b, x = .bl b ∧ y = .bl b) ∨ ∃ s, x = .str s ∧ y = .str s
def Sq (μ : Mu) (x y : D) (xs ys : List D) : Prop := (SeqAt μ x xs ∧ SeqAt μ y ys) ∨ (x = .tup xs ∧ y = .tup ys)
def Sm (μ : Mu) : Nat → D → D → Prop
  | 0, x, y => AtE x y
  | n + 1, x, y => AtE x y ∨ ∃ xs ys, Sq μ x y xs ys ∧ xs.length = ys.length ∧ xs.length < 100000 ∧ ∀ (k : Nat) (d e : D), xs[k]? = some d → ys[k]? = some e → Sm μ n d e
def spn_l_same (n : Nat) : Sp2 := fun ds μ Q _ => ∃ x y, ds = [x, y] ∧ Sm μ n x y ∧ Q (.bl true) μ
theorem len_l_same (n : Nat) (ds : List D) (μ : Mu) (Q : QE) (ex : Ex2) (h : spn_l_same n ds μ Q ex) : ds.length = 2 := by
  obtain ⟨x, y, rfl, _⟩ := h
  rfl
theorem same_atom {x y : D} {sp : Sp2} {μ : Mu} {Q : QE} (h : AtE x y) (q : Q (.bl true) μ) : t_l_same sp_l_is_integer sp (ends Q) [some x, some y, none, none, none] μ := by
  unfold t_l_same
  rcases h with ⟨i, rfl, rfl⟩ | ⟨b, rfl, rfl⟩ | ⟨s, rfl, rfl⟩
  · walk_at "js"
    refine ⟨false, rfl, w_false ?_⟩
    walk_at "js"
    refine ⟨false, rfl, w_false ?_⟩
    walk_at "js"
    refine w_false ?_
    walk_at "js"
    refine w_false ?_
    walk_at "js"
    refine w_true (w_true ?_)
    walk_at "js"
    refine w_true ?_
    walk_at "js"
    refine w_true ?_
    walk_at "js"
    rw [decide_eq_true rfl]
    exact .of q
  · walk_at "js"
    refine ⟨false, rfl, w_false ?_⟩
    walk_at "js"
    refine ⟨false, rfl, w_false ?_⟩
    walk_at "js"
    refine w_true (w_true ?_)
    walk_at "js"
    refine w_true ?_
    walk_at "js"
    refine w_true ?_
    walk_at "js"
    rw [decide_eq_true rfl]
    exact .of q
  · walk_at "js"
    refine ⟨false, rfl, w_false ?_⟩
    walk_at "js"
    refine ⟨false, rfl, w_false ?_⟩
    walk_at "js"
    refine w_false ?_
    walk_at "js"
    refine w_false ?_
    walk_at "js"
    refine w_false ?_
    walk_at "js"
    refine w_false ?_
    walk_at "js"
    refine w_true (w_true ?_)
    walk_at "js"
    refine w_true ?_
    walk_at "js"
    refine w_true ?_
    walk_at "js"
    rw [decide_eq_true rfl]
    exact .of q
theorem sq_isn {μ : Mu} {x y : D} {xs ys : List D} {Q : QE} (h : Sq μ x y xs ys) (q : Q (.bl false) μ) : is2 false x .non μ Q ∧ is2 false y .non μ Q := by
  rcases h with ⟨(rfl | ⟨a, rfl, _⟩) | rfl, (rfl | ⟨b, rfl, _⟩) | rfl⟩ | ⟨rfl, rfl⟩ <;> exact ⟨q, q⟩
def sqT (b : Bool) : Ty := if b then .lst else .tup
theorem seq_ty {μ : Mu} {x : D} {xs : List D} (h : SeqAt μ x xs) : tyD μ x = some .lst := by
  rcases h with (rfl | ⟨a, rfl, h⟩) | rfl
  · rfl
  · simp only [tyD, h]
  · rfl
theorem sq_ty {μ : Mu} {x y : D} {xs ys : List D} (h : Sq μ x y xs ys) : ∃ b, tyD μ x = some (sqT b) ∧ tyD μ y = some (sqT b) := by
  rcases h with ⟨h1, h2⟩ | ⟨rfl, rfl⟩
  · exact ⟨true, seq_ty h1, seq_ty h2⟩
  · exact ⟨false, rfl, rfl⟩
theorem sq_len {μ : Mu} {x y : D} {xs ys : List D} {Q : QE} (h : Sq μ x y xs ys) : (Q (.int xs.length) μ → len1 [x] μ Q) ∧ (Q (.int ys.length) μ → len1 [y] μ Q) := by
  rcases h with ⟨(rfl | ⟨a, rfl, h1⟩) | rfl, (rfl | ⟨b, rfl, h2⟩) | rfl⟩ | ⟨rfl, rfl⟩ <;> refine ⟨fun q => ?_, fun q => ?_⟩ <;> first | exact q | exact .inl ⟨_, h1, q⟩ | exact .inl ⟨_, h2, q⟩
theorem sq_ix {μ : Mu} {x y : D} {xs ys : List D} (h : Sq μ x y xs ys) {Q : QE} {i : Int} {d : D} : (atI xs i = some d → Q d μ → ix2 x (.int i) μ Q) ∧ (atI ys i = some d → Q d μ → ix2 y (.int i) μ Q) := by
  rcases h with ⟨h1, h2⟩ | ⟨rfl, rfl⟩
  · exact ⟨fun e q => .inl ⟨xs, i, d, .inl h1, rfl, e, q⟩, fun e q => .inl ⟨ys, i, d, .inl h2, rfl, e, q⟩⟩
  · exact ⟨fun e q => x_ixT e q, fun e q => x_ixT e q⟩
theorem isi_sq {μ : Mu} {x : D} {T : Ty} {b : Bool} {Q : QE} (h : tyD μ x = some (sqT b)) (q : Q (.bl (isTy (sqT b) T)) μ) : isi T [x, .ty T.nm] μ Q := ⟨rfl, _, h, q⟩
theorem isi_no {μ : Mu} {x : D} {T : Ty} {b : Bool} {Q : QE} (h : tyD μ x = some (sqT b)) (hT : isTy .lst T = false ∧ isTy .tup T = false) (q : Q (.bl false) μ) : isi T [x, .ty T.nm] μ Q := isi_sq h (by
  cases b with
  | true => show Q (.bl (isTy .lst T)) μ; rw [hT.1]; exact q
  | false => show Q (.bl (isTy .tup T)) μ; rw [hT.2]; exact q)
theorem same_list {x y : D} {xs ys : List D} {sp : Sp2} {μ : Mu} {Q : QE} {n : Nat} (h : Sq μ x y xs ys) (hl : xs.length = ys.length) (hl2 : xs.length < 100000) (he : ∀ (k : Nat) (d e : D), xs[k]? = some d → ys[k]? = some e → Sm μ n d e)
    (hs : ∀ (x y : D) (Q : QE) (ex : Ex2), Sm μ n x y → Q (.bl true) μ → sp [x, y] μ Q ex) (q : Q (.bl true) μ) : t_l_same sp_l_is_integer sp (ends Q) [some x, some y, none, none, none] μ := by
  unfold t_l_same
  obtain ⟨b, t1, t2⟩ := sq_ty h
  walk_at "js"
  refine (sq_isn h ?_).1
  refine ⟨false, rfl, w_false ?_⟩
  walk_at "js"
  refine (sq_isn h ?_).2
  refine ⟨false, rfl, w_false ?_⟩
  walk_at "js"
  refine isi_no t1 ⟨rfl, rfl⟩ ?_
  walk_at "js"
  refine w_false ?_
  walk_at "js"
  refine isi_no t2 ⟨rfl, rfl⟩ ?_
  walk_at "js"
  refine w_false ?_
  walk_at "js"
  refine isi_no t1 ⟨rfl, rfl⟩ ?_
  walk_at "js"
  refine w_false ?_
  walk_at "js"
  refine isi_no t2 ⟨rfl, rfl⟩ ?_
  walk_at "js"
  refine w_false ?_
  walk_at "js"
  refine isi_no t1 ⟨rfl, rfl⟩ ?_
  walk_at "js"
  refine w_false ?_
  walk_at "js"
  refine isi_no t2 ⟨rfl, rfl⟩ ?_
  walk_at "js"
  refine w_false ?_
  walk_at "js"
  refine isi_no t1 ⟨rfl, rfl⟩ ?_
  walk_at "js"
  refine w_false ?_
  walk_at "js"
  refine isi_no t2 ⟨rfl, rfl⟩ ?_
  walk_at "js"
  refine w_false ?_
  have tail : jSeq (jIfS (jTest (jOp ne2 (jCB len1 (jCons (jVar 0) jNil)) (jCB len1 (jCons (jVar 1) jNil)))) (jRet (jC (.bl false))) jNext)
      (jSeq (jFor (iR1 (jCons (jCB len1 (jCons (jVar 0) jNil)) jNil)) (kName 3) (jIfS (jNot (jTest (jCall sp [] noEx (jCons (jOp ix2 (jVar 0) (jVar 3)) (jCons (jOp ix2 (jVar 1) (jVar 3)) jNil))))) (jRet (jC (.bl false))) jNext)) (jRet (jC (.bl true))))
      (ends Q) [some x, some y, some (.bl b), none, none] μ := by
    walk_at "js"
    refine (sq_len h).1 ?_
    walk_at "js"
    refine (sq_len h).2 ?_
    walk_at "js"
    refine w_ifn (fun hc => absurd (by rw [hl]) hc) (fun _ => ?_)
    walk_at "js"
    refine (sq_len h).1 ?_
    walk_at "js"
    refine ⟨_, rfl, by unfold rngOk; omega, ?_⟩
    refine loop_rng (fun k δ μ' => μ' = μ ∧ ∃ o : Option D, δ = [some x, some y, some (.bl b), o, none]) (fun _ _ _ _ => trivial) ?_ ?_ _ _ ⟨rfl, none, rfl⟩
    · rintro k δ μ' hk ⟨rfl, o, rfl⟩ QN hN
      have k1 : k < xs.length := by omega
      have k2 : k < ys.length := by omega
      walk_at "js"
      refine (sq_ix h).1 (atI_some (List.getElem?_eq_getElem k1)) ?_
      walk_at "js"
      refine (sq_ix h).2 (atI_some (List.getElem?_eq_getElem k2)) ?_
      walk_at "js"
      refine hs _ _ _ _ (he k _ _ (List.getElem?_eq_getElem k1) (List.getElem?_eq_getElem k2)) (.of ?_)
      walk_at "js"
      refine w_false ?_
      walk_at "js"
      exact hN _ _ ⟨rfl, _, rfl⟩
    · rintro δ μ' ⟨rfl, o, rfl⟩
      walk_at "js"
      exact .of q
  walk_at "js"
  refine isi_sq t1 ?_
  cases b with
  | true =>
    refine ⟨true, rfl, w_true ?_⟩
    walk_at "js"
    refine isi_sq t2 ?_
    walk_at "js"
    refine w_false (w_false ?_)
    refine x_next ?_
    refine x_nx (by assumption) ?_
    exact tail
  | false =>
    refine ⟨false, rfl, w_false ?_⟩
    walk_at "js"
    refine w_true ?_
    walk_at "js"
    refine isi_sq t1 ?_
    walk_at "js"
    refine w_true ?_
    walk_at "js"
    refine isi_sq t2 ?_
    walk_at "js"
    refine w_false ?_
    refine x_next ?_
    refine x_nx (by assumption) ?_
    exact tail
theorem pure_l_same_0 (ds : List D) (μ : Mu) (Q : QE) (ex : Ex2) (h : spn_l_same 0 ds μ Q ex) : t_l_same sp_l_is_integer (fun _ _ _ _ => False) (ends Q) (startD ["a", "b", "c", "d", "e"] ds) μ := by
  obtain ⟨x, y, rfl, h, q⟩ := h
  exact same_atom h q
theorem pure_l_same_s (n : Nat) (ds : List D) (μ : Mu) (Q : QE) (ex : Ex2) (h : spn_l_same (n + 1) ds μ Q ex) : t_l_same sp_l_is_integer (spn_l_same n) (ends Q) (startD ["a", "b", "c", "d", "e"] ds) μ := by
  obtain ⟨x, y, rfl, h | ⟨xs, ys, h, hl, hl2, he⟩, q⟩ := h
  · exact same_atom h q
  · exact same_list h hl hl2 he (fun x y Q ex h q => ⟨x, y, rfl, h, q⟩) q
def sp_l_same : Sp2 := spn_l_same 4

/-! ### a drawn balanced shape -/
def spn_l_balanced (n : Nat) : Sp2 := fun ds μ Q _ => ∃ (s : Addr) (m : MO) (p : Addr) (xs : List D) (h : Nat), ds = [.ref s, .int h, .ref p] ∧ s ≠ p ∧ μ s = some m ∧ IsSt m ∧ μ p = some (.lst xs) ∧ h ≤ n ∧ xs.length + 2 ^ h ≤ 399 ∧
  ∀ (sh : Sh) (m' : MO) (ys : List D), IsSt m' → sh.ht = h → sh.ok = true → sh.sz + 1 ≤ 2 ^ h → ys.length ≤ xs.length + sh.sz → Q sh.d (mup (mup μ s m') p (.lst ys))
theorem len_l_balanced (n : Nat) (ds : List D) (μ : Mu) (Q : QE) (ex : Ex2) (h : spn_l_balanced n ds μ Q ex) : ds.length = 3 := by
  obtain ⟨s, m, p, xs, h, rfl, _⟩ := h
  rfl
theorem bal_zero {sp : Sp2} {s p : Addr} {m : MO} {xs : List D} {μ : Mu} {Q : QE} (hs : μ s = some m) (hm : IsSt m) (hp : μ p = some (.lst xs)) (q : ∀ (sh : Sh) (m' : MO) (ys : List D), IsSt m' → sh.ht = 0 → sh.ok = true → sh.sz + 1 ≤ 2 ^ 0 → ys.length ≤ xs.length + sh.sz → Q sh.d (mup (mup μ s m') p (.lst ys))) :
    t_l_balanced sp_l_key sp_l_take sp (ends Q) [some (.ref s), some (.int (0 : Nat)), some (.ref p), none, none, none, none, none] μ := by
  unfold t_l_balanced
  walk_at "js"
  refine w_ifd (fun _ => ?_) (fun h => absurd (by decide) h)
  walk_at "js"
  have e := q .lf m xs hm rfl rfl (by decide) (Nat.le_add_right _ _)
  rw [mup_self hs, mup_self hp] at e
  exact .of e
theorem bal_step {n g : Nat} {sp : Sp2} {s p : Addr} {m : MO} {xs : List D} {μ : Mu} {Q : QE} (hsp : s ≠ p) (hs : μ s = some m) (hm : IsSt m) (hp : μ p = some (.lst xs)) (hn : g + 1 ≤ n) (hx : xs.length + 2 ^ (g + 1) ≤ 399)
    (hr : ∀ (h : Nat) (m : MO) (xs : List D) (Q : QE) (μ : Mu) (ex : Ex2), h + 1 ≤ n → μ s = some m → IsSt m → μ p = some (.lst xs) → xs.length + 2 ^ h ≤ 399 → (∀ (sh : Sh) (m' : MO) (ys : List D), IsSt m' → sh.ht = h → sh.ok = true → sh.sz + 1 ≤ 2 ^ h → ys.length ≤ xs.length + sh.sz → Q sh.d (mup (mup μ s m') p (.lst ys))) → sp [.ref s, .int h, .ref p] μ Q ex)
    (q : ∀ (sh : Sh) (m' : MO) (ys : List D), IsSt m' → sh.ht = g + 1 → sh.ok = true → sh.sz + 1 ≤ 2 ^ (g + 1) → ys.length ≤ xs.length + sh.sz → Q sh.d (mup (mup μ s m') p (.lst ys))) :
    t_l_balanced sp_l_key sp_l_take sp (ends Q) [some (.ref s), some (.int (g + 1 : Nat)), some (.ref p), none, none, none, none, none] μ := by
  have hszl := sizeLine_eq
  have hcm : ∀ (m3 m4 : MO) (C : MO), mup (mup (mup μ s m3) p C) s m4 = mup (mup μ s m4) p C := by
    intro m3 m4 C
    rw [mup_comm (Ne.symm hsp), mup_mup]
  unfold t_l_balanced
  walk_at "js"
  refine w_ifd (fun h => by omega) (fun _ => ?_)
  refine x_next ?_
  refine x_nx (by assumption) ?_
  refine x_seqo fun N hN => ?_
  have rest : ∀ (lo : Int) (m1 : MO), IsSt m1 → (lo = g ∨ (lo = (g : Int) - 1 ∧ 1 ≤ g)) → N [some (.ref s), some (.int (g + 1 : Nat)), some (.ref p), some (.int lo), none, none, none, none] (mup μ s m1) := by
    intro lo m1 hm1 hlo
    obtain ⟨l, rfl, hl⟩ : ∃ l : Nat, lo = l ∧ (l = g ∨ l + 1 = g) := ⟨lo.toNat, by omega, by omega⟩
    clear hlo
    rw [hN]
    walk_at "js"
    refine ⟨s, 2, m1, rfl, mup_same, hm1, by decide, fun r m2 hm2 _ _ _ => .of ?_⟩
    rw [mup_mup]
    walk_at "js"
    refine .f ?_
    refine x_name (by dsimp only [List.set]) ?_
    refine x_nx (by assumption) ?_
    refine x_seqo fun N2 hN2 => ?_
    generalize decide (r = 1) = fl
    have eg : ((g + 1 : Nat) : Int) - 1 = (g : Nat) := by omega
    rw [eg]
    have rest2 : ∀ (a b : Nat), ((a = g ∧ b = l) ∨ (a = l ∧ b = g)) → N2 [some (.ref s), some (.int (g + 1 : Nat)), some (.ref p), some (.int l), some (.bl fl), some (.lst [.int a, .int b]), none, none] (mup μ s m2) := by
      intro a b hab
      have ha : a ≤ g := by omega
      have hb : b ≤ g := by omega
      have pa : 2 ^ a ≤ 2 ^ g := Nat.pow_le_pow_right (by decide) ha
      have pb : 2 ^ b ≤ 2 ^ g := Nat.pow_le_pow_right (by decide) hb
      have pg : 2 ^ (g + 1) = 2 ^ g + 2 ^ g := by rw [Nat.pow_succ]; omega
      have pb1 : 1 ≤ 2 ^ b := Nat.one_le_two_pow
      rw [hN2]
      walk_at "js"
      refine hr a m2 xs _ _ _ (by omega) mup_same hm2 ((mup_ne (Ne.symm hsp)).trans hp) (by omega) fun L m3 ys hm3 h1 h2 h3 h4 => .of ?_
      rw [mup_mup]
      walk_at "js"
      refine ⟨s, m3, ys.length, rfl, (mup_ne hsp).trans mup_same, hm3, by omega, fun ws m4 hm4 _ _ => .of ?_⟩
      rw [hcm]
      walk_at "js"
      refine x_append mup_same (by omega) ?_
      rw [mup_mup]
      walk_at "js"
      refine hr b m4 _ _ _ _ (by omega) ((mup_ne hsp).trans mup_same) hm4 mup_same (by rw [List.length_append, List.length_singleton]; omega) fun R m5 zs hm5 r1 r2 r3 r4 => .of ?_
      rw [List.length_append, List.length_singleton] at r4
      rw [hcm, mup_mup]
      walk_at "js"
      refine .of (q (.nd L ws R) m5 zs hm5 ?_ ?_ ?_ ?_)
      · show max L.ht R.ht + 1 = g + 1
        omega
      · show (L.ok && (R.ok && decide _)) = true
        rw [h2, r2, decide_eq_true (by omega)]
        rfl
      · show L.sz + R.sz + 1 + 1 ≤ _
        omega
      · show zs.length ≤ xs.length + (L.sz + R.sz + 1)
        omega
    walk_at "js"
    refine w_if (fun _ => ?_) (fun _ => ?_)
    · walk_at "js"
      refine .f ?_
      refine x_name (by dsimp only [List.set]) ?_
      rw [eg]
      exact rest2 l g (.inr ⟨rfl, rfl⟩)
    · refine x_next ?_
      exact rest2 g l (.inl ⟨rfl, rfl⟩)
  walk_at "j"
  walk_at "j"
  walk_at "j"
  walk_at "j"
  walk_at "j"
  walk_at "j"
  walk_at "j"
  walk_at "js"
  refine ⟨s, 2, m, rfl, hs, hm, by decide, fun r m2 hm2 _ _ _ => .of ?_⟩
  walk_at "js"
  refine w_ifd (fun _ => ?_) (fun _ => ?_)
  · walk_at "j"
    walk_at "j"
    walk_at "j"
    walk_at "j"
    walk_at "j"
    walk_at "j"
    walk_at "j"
    walk_at "j"
    exact rest _ _ hm2 (by split <;> rename_i h <;> simp only [decide_eq_true_eq] at h <;> omega)
  · walk_at "j"
    walk_at "j"
    walk_at "j"
    refine x_name (by dsimp only [List.set]) ?_
    exact rest _ _ hm2 (by simp)
theorem pure_l_balanced_0 (ds : List D) (μ : Mu) (Q : QE) (ex : Ex2) (h : spn_l_balanced 0 ds μ Q ex) : t_l_balanced sp_l_key sp_l_take (fun _ _ _ _ => False) (ends Q) (startD ["a", "b", "c", "d", "e", "f", "g", "h"] ds) μ := by
  obtain ⟨s, m, p, xs, h, rfl, hsp, hs, hm, hp, hn, hx, q⟩ := h
  obtain rfl : h = 0 := by omega
  exact bal_zero hs hm hp q
theorem pure_l_balanced_s (n : Nat) (ds : List D) (μ : Mu) (Q : QE) (ex : Ex2) (h : spn_l_balanced (n + 1) ds μ Q ex) : t_l_balanced sp_l_key sp_l_take (spn_l_balanced n) (ends Q) (startD ["a", "b", "c", "d", "e", "f", "g", "h"] ds) μ := by
  obtain ⟨s, m, p, xs, h, rfl, hsp, hs, hm, hp, hn, hx, q⟩ := h
  cases h with
  | zero => exact bal_zero hs hm hp q
  | succ g => exact bal_step (n := n + 1) hsp hs hm hp hn hx (fun h m xs Q μ ex h1 h2 h3 h4 h5 h6 => ⟨s, m, p, xs, h, rfl, hsp, h2, h3, h4, by omega, h5, h6⟩) q
def sp_l_balanced : Sp2 := spn_l_balanced 7

/-! ### the law's own walk with a stack -/
inductive Tk where
  | part (s : Sh) | key (k : List Str) | up
def Tk.d : Tk → D
  | .part s => .tup [.str "part", s.d]
  | .key k => .tup [.str "key", keyT k]
  | .up => .tup [.str "up", .non]
def Tk.cost : Tk → Nat
  | .part s => 4 * s.sz + 1
  | _ => 1
def costs : List Tk → Nat
  | [] => 0
  | t :: r => t.cost + costs r
def near (a b : Nat) : Bool := decide (a ≤ b + 1 ∧ b ≤ a + 1)
def exec : List Tk → List Nat → List (List Str) → Bool → Option (List Nat × List (List Str) × Bool)
  | [], t, ks, b => some (t, ks, b)
  | .part s :: r, t, ks, b => exec r (s.ht :: t) (ks ++ s.ks) (b && s.ok)
  | .key k :: r, t, ks, b => exec r t (ks ++ [k]) b
  | .up :: r, h :: l :: t, ks, b => exec r ((1 + max l h) :: t) ks (b && near l h)
  | .up :: _, _, _, _ => none
theorem exec_nd {l R : Sh} {k : List Str} {r : List Tk} {t : List Nat} {ks : List (List Str)} {b : Bool} : exec (.part (.nd l k R) :: r) t ks b = exec (.part l :: .key k :: .part R :: .up :: r) t ks b := by
  show exec r ((max l.ht R.ht + 1) :: t) (ks ++ (l.ks ++ k :: R.ks)) (b && (l.ok && (R.ok && near l.ht R.ht))) = exec r ((1 + max l.ht R.ht) :: t) (ks ++ l.ks ++ [k] ++ R.ks) (b && l.ok && R.ok && near l.ht R.ht)
  rw [Nat.add_comm 1]
  simp only [List.append_assoc, Bool.and_assoc, List.singleton_append]
def toldD (t : List Nat) : List D := (t.map fun i => D.int (i : Nat)).reverse
def taskD (t : List Tk) : List D := (t.map Tk.d).reverse
theorem told_cons (a : Nat) (t : List Nat) : toldD (a :: t) = toldD t ++ [.int a] := by simp [toldD]
theorem task_cons (a : Tk) (t : List Tk) : taskD (a :: t) = taskD t ++ [a.d] := by simp [taskD]
theorem costs_pos {t : Tk} {r : List Tk} : 0 < costs (t :: r) := by
  show 0 < t.cost + costs r
  cases t <;> simp [Tk.cost] <;> omega
theorem told_len (t : List Nat) : (toldD t).length = t.length := by simp [toldD]
theorem task_len (t : List Tk) : (taskD t).length = t.length := by simp [taskD]
theorem costs_len : ∀ t : List Tk, t.length ≤ costs t
  | [] => Nat.le_refl _
  | a :: r => by
    have := costs_len r
    show r.length + 1 ≤ a.cost + costs r
    have : 1 ≤ a.cost := by cases a <;> simp [Tk.cost]
    omega
def M3 (μ : Mu) (p1 p2 p3 : Addr) (A B C : List D) : Mu := mup (mup (mup μ p1 (.lst A)) p2 (.lst B)) p3 (.lst C)
structure Df (p1 p2 p3 : Addr) : Prop where
  a : p1 ≠ p2
  b : p1 ≠ p3
  c : p2 ≠ p3
section
variable {μ : Mu} {p1 p2 p3 : Addr} {A B C : List D}
theorem M3.g1 (h : Df p1 p2 p3) : M3 μ p1 p2 p3 A B C p1 = some (.lst A) := (mup_ne h.b).trans ((mup_ne h.a).trans mup_same)
theorem M3.g2 (h : Df p1 p2 p3) : M3 μ p1 p2 p3 A B C p2 = some (.lst B) := (mup_ne h.c).trans mup_same
theorem M3.g3 : M3 μ p1 p2 p3 A B C p3 = some (.lst C) := mup_same
theorem M3.u1 (h : Df p1 p2 p3) (A' : List D) : mup (M3 μ p1 p2 p3 A B C) p1 (.lst A') = M3 μ p1 p2 p3 A' B C := by
  unfold M3
  rw [mup_comm (Ne.symm h.b), mup_comm (Ne.symm h.a), mup_mup]
theorem M3.u2 (h : Df p1 p2 p3) (B' : List D) : mup (M3 μ p1 p2 p3 A B C) p2 (.lst B') = M3 μ p1 p2 p3 A B' C := by
  unfold M3
  rw [mup_comm (Ne.symm h.c), mup_mup]
theorem M3.u3 (C' : List D) : mup (M3 μ p1 p2 p3 A B C) p3 (.lst C') = M3 μ p1 p2 p3 A B C' := by
  unfold M3
  rw [mup_mup]
end
def sp_l_measured : Sp2 := fun ds μ Q _ => ∃ sh : Sh, ds = [sh.d] ∧ sh.sz ≤ 400 ∧ ∀ p, μ p = none → Q (.lst [.int sh.ht, .int sh.sz, .bl sh.ok, .ref p]) (mup μ p (.lst (sh.ks.map keyT)))
theorem len_l_measured (ds : List D) (μ : Mu) (Q : QE) (ex : Ex2) (h : sp_l_measured ds μ Q ex) : ds.length = 1 := by
  obtain ⟨sh, rfl, _⟩ := h
  rfl
set_option maxHeartbeats 1000000 in
theorem pure_l_measured (ds : List D) (μ : Mu) (Q : QE) (ex : Ex2) (h : sp_l_measured ds μ Q ex) : t_l_measured (ends Q) (startD ["a", "b", "c", "d", "e", "f", "g", "h", "i", "j"] ds) μ := by
  obtain ⟨sh, rfl, hz, q⟩ := h
  have hszl := sizeLine_eq
  unfold t_l_measured
  show jSeq _ _ (ends Q) [some sh.d, none, none, none, none, none, none, none, none, none] μ
  walk_at "js"
  refine .m fun p1 h1 => ?_
  walk_at "js"
  refine .m fun p2 h2 => ?_
  have d1 : p1 ≠ p2 := fun z => by rw [← z, mup_same] at h2; cases h2
  have k2 : μ p2 = none := by rw [mup_ne (Ne.symm d1)] at h2; exact h2
  walk_at "js"
  refine .m fun p3 h3 => ?_
  have d2 : p2 ≠ p3 := fun z => by rw [← z, mup_same] at h3; cases h3
  have d3 : p1 ≠ p3 := fun z => by rw [← z, mup_ne d1, mup_same] at h3; cases h3
  have k3 : μ p3 = none := by rw [mup_ne (Ne.symm d2), mup_ne (Ne.symm d3)] at h3; exact h3
  have hd : Df p1 p2 p3 := ⟨d1, d3, d2⟩
  change kName _ _ _ (M3 μ p1 p2 p3 [Tk.d (.part sh)] [] []) _
  walk_at "js"
  refine ⟨1610, rfl, by unfold rngOk; omega, ?_⟩
  refine loop_rng (fun k δ μ' => ∃ (ts : List Tk) (t : List Nat) (ks : List (List Str)) (b : Bool) (o5 o6 o7 o8 o9 : Option D), exec ts t ks b = some ([sh.ht], sh.ks, sh.ok) ∧ k + costs ts = 4 * sh.sz + 1 ∧ t.length ≤ k ∧ ks.length ≤ k ∧ μ' = M3 μ p1 p2 p3 (taskD ts) (toldD t) (ks.map keyT) ∧
    δ = [some sh.d, some (.ref p1), some (.ref p2), some (.ref p3), some (.bl b), o5, o6, o7, o8, o9]) (fun _ _ _ _ => trivial) ?_ ?_ _ _ ⟨[.part sh], [], [], true, none, none, none, none, none, by show some ([sh.ht], [] ++ sh.ks, true && sh.ok) = _; simp, by show 0 + (4 * sh.sz + 1 + 0) = _; omega, Nat.le_refl _, Nat.le_refl _, rfl, rfl⟩
  · rintro k δ μ' hk ⟨ts, t, ks, b, o5, o6, o7, o8, o9, he, hc, ht, hks, rfl, rfl⟩ QN hN
    have hk2 : k < 100000 := Nat.lt_trans hk (by decide)
    walk_at "js"
    refine x_lenM (M3.g1 hd) ?_
    rw [task_len]
    walk_at "js"
    cases ts with
    | nil =>
      refine w_ifd (fun _ => ?_) (fun h => absurd rfl h)
      cases he
      walk_at "js"
      refine x_ixM (M3.g2 hd) (show atI (toldD [sh.ht]) 0 = some (.int sh.ht) from rfl) ?_
      walk_at "js"
      refine x_lenM M3.g3 ?_
      rw [List.length_map, Sh.ks_len]
      walk_at "js"
      refine .f ?_
      refine .drop (μ' := mup μ p3 (.lst (sh.ks.map keyT))) ?_ (q p3 k3)
      intro a u e
      unfold M3
      by_cases ha : a = p3
      · subst ha; rw [mup_same] at e ⊢; exact e
      · rw [mup_ne ha] at e ⊢
        by_cases ha2 : a = p2
        · subst ha2; rw [k2] at e; cases e
        · rw [mup_ne ha2]
          by_cases ha1 : a = p1
          · subst ha1; rw [h1] at e; cases e
          · rw [mup_ne ha1]; exact e
    | cons x ts =>
      have hcl := costs_len ts
      have hcx : costs (x :: ts) = x.cost + costs ts := rfl
      have hbig : (taskD ts).length + 4 < sizeLine := by rw [task_len]; omega
      refine w_ifd (fun h => by rw [List.length_cons] at h; omega) (fun _ => ?_)
      rw [task_cons]
      walk_at "js"
      refine x_tyM (M3.g1 hd) ?_
      refine x_pop (M3.g1 hd) ?_
      rw [M3.u1 hd]
      cases x with
      | key w =>
        dsimp only [Tk.d]
        walk_at "js"
        refine w_ifd (fun _ => ?_) (fun h => absurd rfl h)
        walk_at "js"
        refine x_tyM M3.g3 ?_
        walk_at "js"
        refine x_append M3.g3 (by rw [List.length_map]; omega) ?_
        rw [M3.u3]
        have e : ks.map keyT ++ [keyT w] = (ks ++ [w]).map keyT := by simp
        rw [e]
        refine x_next ?_
        exact hN _ _ ⟨ts, t, ks ++ [w], b, _, _, _, _, _, he, by rw [hcx] at hc; simp only [Tk.cost] at hc; omega, by omega, by rw [List.length_append]; show ks.length + 1 ≤ _; omega, rfl, rfl⟩
      | up =>
        dsimp only [Tk.d]
        match t, he, ht with
        | [], he, _ => cases he
        | [_], he, _ => cases he
        | h :: l :: t, he, ht =>
          rw [List.length_cons, List.length_cons] at ht
          walk_at "js"
          refine w_ifd (fun h => absurd h (by decide)) (fun _ => ?_)
          walk_at "js"
          refine w_ifd (fun _ => ?_) (fun h => absurd rfl h)
          rw [told_cons, told_cons]
          walk_at "js"
          refine x_tyM (M3.g2 hd) ?_
          refine x_pop (M3.g2 hd) ?_
          rw [M3.u2 hd]
          walk_at "js"
          refine x_tyM (M3.g2 hd) ?_
          refine x_pop (M3.g2 hd) ?_
          rw [M3.u2 hd]
          walk_at "js"
          refine x_tyM (M3.g2 hd) ?_
          walk_at "js"
          refine x_append (M3.g2 hd) (by rw [told_len]; omega) ?_
          rw [M3.u2 hd]
          have e1 : (1 : Int) + (if (h : Int) > (l : Int) then (h : Int) else l) = ((1 + max l h : Nat) : Int) := by split <;> omega
          rw [e1, ← told_cons]
          have fin : ∀ b' : Bool, b' = (b && near l h) → QN [some sh.d, some (.ref p1), some (.ref p2), some (.ref p3), some (.bl b'), some (.int k), some (.tup [.str "up", .non]), some .non, some (.int h), some (.int l)] (M3 μ p1 p2 p3 (taskD ts) (toldD ((1 + max l h) :: t)) (ks.map keyT)) := by
            intro b' eb
            subst eb
            exact hN _ _ ⟨ts, (1 + max l h) :: t, ks, _, _, _, _, _, _, he, by rw [hcx] at hc; simp only [Tk.cost] at hc; omega, by rw [List.length_cons]; omega, by omega, rfl, rfl⟩
          walk_at "js"
          refine w_if (fun hb => ?_) (fun hb => ?_)
          · walk_at "js"
            refine fin _ ?_
            rw [hb, Bool.true_and]
            unfold near
            refine decide_eq_decide.mpr ?_
            have := abs_gt l h
            omega
          · walk_at "js"
            refine fin _ ?_
            rw [hb, Bool.false_and]
      | part s =>
        dsimp only [Tk.d]
        cases s with
        | lf =>
          walk_at "js"
          refine w_ifd (fun h => absurd h (by decide)) (fun _ => ?_)
          walk_at "js"
          refine w_ifd (fun h => absurd h (by decide)) (fun _ => ?_)
          dsimp only [Sh.d]
          walk_at "js"
          refine w_false ?_
          walk_at "js"
          refine .f ?_
          refine x_ninL rfl rfl ?_
          walk_at "js"
          refine w_false ?_
          walk_at "js"
          refine w_ifd (fun _ => ?_) (fun h => absurd rfl h)
          walk_at "js"
          refine x_tyM (M3.g2 hd) ?_
          walk_at "js"
          refine x_append (M3.g2 hd) (by rw [told_len]; omega) ?_
          rw [M3.u2 hd]
          refine x_next ?_
          refine hN _ _ ⟨ts, 0 :: t, ks, b, _, _, _, _, _, ?_, by rw [hcx] at hc; simp only [Tk.cost, Sh.sz] at hc; omega, by rw [List.length_cons]; omega, by omega, by rw [told_cons]; rfl, rfl⟩
          rw [← he]
          show exec ts (0 :: t) ks b = exec ts (0 :: t) (ks ++ []) (b && true)
          rw [List.append_nil, Bool.and_true]
        | nd l w r =>
          rw [exec_nd] at he
          walk_at "js"
          refine w_ifd (fun h => absurd h (by decide)) (fun _ => ?_)
          walk_at "js"
          refine w_ifd (fun h => absurd h (by decide)) (fun _ => ?_)
          dsimp only [Sh.d]
          walk_at "js"
          refine w_false ?_
          walk_at "js"
          refine .f ?_
          refine x_ninL rfl rfl ?_
          walk_at "js"
          refine w_false ?_
          walk_at "js"
          refine w_ifd (fun h => nomatch h) (fun _ => ?_)
          walk_at "js"
          refine x_tyM (M3.g1 hd) ?_
          walk_at "js"
          refine x_append (M3.g1 hd) (by omega) ?_
          rw [M3.u1 hd]
          walk_at "js"
          refine x_tyM (M3.g1 hd) ?_
          walk_at "js"
          refine x_append (M3.g1 hd) (by rw [List.length_append]; show (taskD ts).length + 1 < _; omega) ?_
          rw [M3.u1 hd]
          walk_at "js"
          refine x_tyM (M3.g1 hd) ?_
          walk_at "js"
          refine x_append (M3.g1 hd) (by rw [List.length_append, List.length_append]; show (taskD ts).length + 1 + 1 < _; omega) ?_
          rw [M3.u1 hd]
          walk_at "js"
          refine x_tyM (M3.g1 hd) ?_
          walk_at "js"
          refine x_append (M3.g1 hd) (by rw [List.length_append, List.length_append, List.length_append]; show (taskD ts).length + 1 + 1 + 1 < _; omega) ?_
          rw [M3.u1 hd]
          refine x_next ?_
          refine hN _ _ ⟨.part l :: .key w :: .part r :: .up :: ts, t, ks, b, _, _, _, _, _, he, ?_, by omega, by omega, by rw [task_cons, task_cons, task_cons, task_cons]; rfl, rfl⟩
          rw [hcx] at hc
          show k + 1 + (4 * l.sz + 1 + (1 + (4 * r.sz + 1 + (1 + costs ts)))) = _
          simp only [Tk.cost, Sh.sz] at hc
          omega
  · rintro δ μ' ⟨ts, t, ks, b, o5, o6, o7, o8, o9, he, hc, ht, hks, rfl, rfl⟩
    exfalso
    omega

/-! ### chains -/
def sp_l_chain : Sp2 := fun ds μ Q _ => ∃ (s : Addr) (m : MO) (n : Nat), ds = [.ref s, .int n] ∧ μ s = some m ∧ IsSt m ∧ n ≤ 60 ∧ ∀ (sh : Sh) (m' : MO), IsSt m' → sh.ht ≤ n → sh.sz ≤ n → Q sh.d (mup μ s m')
theorem len_l_chain (ds : List D) (μ : Mu) (Q : QE) (ex : Ex2) (h : sp_l_chain ds μ Q ex) : ds.length = 2 := by
  obtain ⟨s, m, n, rfl, _⟩ := h
  rfl
theorem pure_l_chain (ds : List D) (μ : Mu) (Q : QE) (ex : Ex2) (h : sp_l_chain ds μ Q ex) : t_l_chain sp_l_key sp_l_take (ends Q) (startD ["a", "b", "c", "d", "e"] ds) μ := by
  obtain ⟨s, m, n, rfl, hs, hm, hn, q⟩ := h
  unfold t_l_chain
  show jSeq _ _ (ends Q) [some _, some _, none, none, none] μ
  walk_at "js"
  refine ⟨_, rfl, by unfold rngOk; omega, ?_⟩
  refine loop_rng (fun k δ μ' => ∃ (sh : Sh) (m' : MO) (o u : Option D), sh.ht ≤ k ∧ sh.sz ≤ k ∧ IsSt m' ∧ μ' = mup μ s m' ∧ δ = [some (.ref s), some (.int n), some sh.d, o, u]) (fun _ _ _ _ => trivial) ?_ ?_ _ _ ⟨.lf, m, none, none, Nat.le_refl _, Nat.le_refl _, hm, (mup_self hs).symm, rfl⟩
  · rintro k δ μ' hk ⟨sh, m', o, u, h1, h2, hm', rfl, rfl⟩ QN hN
    walk_at "js"
    have e : (k : Int) % 7 = ((k % 7 : Nat) : Int) := by omega
    rw [e]
    refine ⟨s, m', _, rfl, mup_same, hm', by omega, fun ws m2 hm2 _ _ => .of ?_⟩
    rw [mup_mup]
    walk_at "js"
    refine ⟨s, 2, m2, rfl, mup_same, hm2, by decide, fun r m3 hm3 _ _ _ => .of ?_⟩
    rw [mup_mup]
    walk_at "js"
    refine w_ifd (fun _ => ?_) (fun _ => ?_)
    · walk_at "js"
      exact hN _ _ ⟨.nd sh ws .lf, m3, _, _, by show max sh.ht 0 + 1 ≤ _; omega, by show sh.sz + 0 + 1 ≤ _; omega, hm3, rfl, rfl⟩
    · walk_at "js"
      exact hN _ _ ⟨.nd .lf ws sh, m3, _, _, by show max 0 sh.ht + 1 ≤ _; omega, by show 0 + sh.sz + 1 ≤ _; omega, hm3, rfl, rfl⟩
  · rintro δ μ' ⟨sh, m', o, u, h1, h2, hm', rfl, rfl⟩
    walk_at "js"
    have e : Int.toNat (n : Int) = n := Int.toNat_natCast n
    exact .of (q sh m' hm' (by omega) (by omega))
/-! ### bent shapes -/
structure En where
  l : Sh
  k : List Str
  r : Sh
  b : Bool
def En.d (e : En) : D := .tup [.tup [e.l.d, keyT e.k, e.r.d], .int (if e.b then 2 else 0)]
def En.plug (e : En) (s : Sh) : Sh := if e.b = true then .nd e.l e.k s else .nd s e.k e.r
def plugs : List En → Sh → Sh
  | [], s => s
  | e :: r, s => plugs r (e.plug s)
theorem plug_le (e : En) {s t : Sh} (h : t.ht ≤ s.ht + 2) (hz : t.sz ≤ s.sz + 2) : (e.plug t).ht ≤ (e.plug s).ht + 2 ∧ (e.plug t).sz ≤ (e.plug s).sz + 2 := by
  obtain ⟨l, k, r, b⟩ := e
  cases b with
  | true => exact ⟨by show max l.ht t.ht + 1 ≤ max l.ht s.ht + 1 + 2; omega, by show l.sz + t.sz + 1 ≤ l.sz + s.sz + 1 + 2; omega⟩
  | false => exact ⟨by show max t.ht r.ht + 1 ≤ max s.ht r.ht + 1 + 2; omega, by show t.sz + r.sz + 1 ≤ s.sz + r.sz + 1 + 2; omega⟩
theorem plugs_le : ∀ (rd : List En) {s t : Sh}, t.ht ≤ s.ht + 2 → t.sz ≤ s.sz + 2 → (plugs rd t).ht ≤ (plugs rd s).ht + 2 ∧ (plugs rd t).sz ≤ (plugs rd s).sz + 2
  | [], _, _, h, hz => ⟨h, hz⟩
  | e :: r, _, _, h, hz => plugs_le r (plug_le e h hz).1 (plug_le e h hz).2
theorem plugs_ht : ∀ (rd : List En) (s : Sh), s.ht ≤ (plugs rd s).ht
  | [], s => Nat.le_refl _
  | e :: r, s => by
    have := plugs_ht r (e.plug s)
    refine Nat.le_trans ?_ this
    obtain ⟨l, k, r, b⟩ := e
    cases b with
    | true => show s.ht ≤ max l.ht s.ht + 1; omega
    | false => show s.ht ≤ max s.ht r.ht + 1; omega
def roadD (rd : List En) : List D := (rd.map En.d).reverse
theorem road_cons (e : En) (rd : List En) : roadD rd ++ [e.d] = roadD (e :: rd) := by simp [roadD]
theorem road_len (rd : List En) : (roadD rd).length = rd.length := by simp [roadD]
theorem road_at {rd : List En} {k : Nat} (h : k < rd.length) : atI (roadD rd) (((rd.length : Nat) : Int) - 1 - (k : Nat)) = some (rd[k]).d := by
  have e : ((rd.length : Nat) : Int) - 1 - (k : Nat) = ((rd.length - 1 - k : Nat) : Int) := by omega
  rw [e]
  refine atI_some ?_
  unfold roadD
  rw [List.getElem?_reverse (by rw [List.length_map]; omega), List.length_map, List.getElem?_map]
  have e2 : rd.length - 1 - (rd.length - 1 - k) = k := by omega
  rw [e2, List.getElem?_eq_getElem h]
  rfl
def sp_l_bent_shape : Sp2 := fun ds μ Q _ => ∃ (s : Addr) (m : MO) (sh : Sh), ds = [.ref s, sh.d] ∧ μ s = some m ∧ IsSt m ∧ sh.ht ≤ 58 ∧ ∀ (sh' : Sh) (m' : MO), IsSt m' → sh'.ht ≤ sh.ht + 2 → sh'.sz ≤ sh.sz + 2 → Q sh'.d (mup μ s m')
theorem len_l_bent_shape (ds : List D) (μ : Mu) (Q : QE) (ex : Ex2) (h : sp_l_bent_shape ds μ Q ex) : ds.length = 2 := by
  obtain ⟨s, m, n, rfl, _⟩ := h
  rfl
def t_bent_tail : TS2 := (jSeq (jFor (iR1 (jCons (jCB len1 (jCons (jVar 2) (jNil))) (jNil))) (kName 4)
    (jSeq (jAsg (jOp ix2 (jVar 2) (jOp sub2 (jOp sub2 (jCB len1 (jCons (jVar 2) (jNil))) (jC (.int 1))) (jVar 4))) (kName 6))
    (jIfS (jTest (jOp eq2 (jOp ix2 (jVar 6) (jC (.int 1))) (jC (.int 0))))
    (jAsg (jTup (jCons (jVar 3) (jCons (jOp ix2 (jOp ix2 (jVar 6) (jC (.int 0))) (jC (.int 1))) (jCons (jOp ix2 (jOp ix2 (jVar 6) (jC (.int 0))) (jC (.int 2))) (jNil))))) (kName 3))
    (jAsg (jTup (jCons (jOp ix2 (jOp ix2 (jVar 6) (jC (.int 0))) (jC (.int 0))) (jCons (jOp ix2 (jOp ix2 (jVar 6) (jC (.int 0))) (jC (.int 1))) (jCons (jVar 3) (jNil))))) (kName 3)))))
    (jRet (jVar 3)))
theorem bent_tail {s p : Addr} {m : MO} {sh c c2 : Sh} {rd : List En} {μ : Mu} {Q : QE} {o4 o6 o7 : Option D} {st : Int} (hp : μ p = none) (hsp : s ≠ p) (hl : rd.length < 1000) (q : Q (plugs rd c2).d (mup μ s m)) :
    t_bent_tail (ends Q) [some (.ref s), some sh.d, some (.ref p), some c2.d, o4, some (.int st), o6, o7] (mup (mup μ s m) p (.lst (roadD rd))) := by
  unfold t_bent_tail
  walk_at "js"
  refine ⟨_, rfl, by rw [road_len]; unfold rngOk; omega, ?_⟩
  refine loop_rng (fun k δ μ' => μ' = mup (mup μ s m) p (.lst (roadD rd)) ∧ ∃ (c' : Sh) (o4 o6 : Option D), plugs (rd.drop k) c' = plugs rd c2 ∧ δ = [some (.ref s), some sh.d, some (.ref p), some c'.d, o4, some (.int st), o6, o7]) (fun _ _ _ _ => trivial) ?_ ?_ _ _ ⟨rfl, c2, o4, o6, rfl, rfl⟩
  · rintro k δ μ' hk ⟨rfl, c', o4, o6, hc, rfl⟩ QN hN
    have hk2 : k < rd.length := by rw [road_len] at hk; exact hk
    rw [List.drop_eq_getElem_cons hk2] at hc
    walk_at "js"
    rw [road_len]
    refine x_ixM mup_same (road_at hk2) ?_
    generalize rd[k] = e at *
    obtain ⟨l, w, r, b⟩ := e
    dsimp only [En.d]
    cases b with
    | true =>
      walk_at "js"
      refine w_ifd (fun h => by simp at h) (fun _ => ?_)
      walk_at "js"
      exact hN _ _ ⟨rfl, _, _, _, hc, rfl⟩
    | false =>
      walk_at "js"
      refine w_ifd (fun _ => ?_) (fun h => absurd rfl h)
      walk_at "js"
      exact hN _ _ ⟨rfl, _, _, _, hc, rfl⟩
  · rintro δ μ' ⟨rfl, c', o4, o6, hc, rfl⟩
    have e : Int.toNat ((roadD rd).length : Nat) = rd.length := by rw [road_len]; rfl
    rw [e, List.drop_length] at hc
    walk_at "js"
    have hc : c' = plugs rd c2 := hc
    rw [hc]
    refine .drop (μ' := mup μ s m) ?_ q
    intro b u e
    by_cases hb : b = p
    · subst hb
      rw [mup_ne (Ne.symm hsp), hp] at e
      cases e
    · rw [mup_ne hb]; exact e
set_option maxHeartbeats 1000000 in
theorem pure_l_bent_shape (ds : List D) (μ : Mu) (Q : QE) (ex : Ex2) (h : sp_l_bent_shape ds μ Q ex) : t_l_bent_shape sp_l_take (ends Q) (startD ["a", "b", "c", "d", "e", "f", "g", "h"] ds) μ := by
  obtain ⟨s, m, sh, rfl, hs, hm, hh, q⟩ := h
  have hszl := sizeLine_eq
  unfold t_l_bent_shape
  show jSeq _ _ (ends Q) [some _, some _, none, none, none, none, none, none] μ
  walk_at "js"
  refine .m fun p hp => ?_
  have hsp : s ≠ p := fun z => by rw [← z, hs] at hp; cases hp
  have hcm : ∀ (m3 m4 : MO) (C : MO), mup (mup (mup μ s m3) p C) s m4 = mup (mup μ s m4) p C := by
    intro m3 m4 C
    rw [mup_comm (Ne.symm hsp), mup_mup]
  have h0 : mup μ p (.lst []) = mup (mup μ s m) p (.lst []) := by rw [mup_self hs]
  rw [h0]
  walk_at "js"
  refine ⟨s, 8, m, rfl, (mup_ne hsp).trans mup_same, hm, by decide, fun n m1 hm1 hn0 _ hn8 => .of ?_⟩
  rw [hcm]
  have hn8 := hn8 (by decide)
  refine ⟨_, rfl, by unfold rngOk; omega, ?_⟩
  refine loop_rng (fun k δ μ' => ∃ (rd : List En) (c : Sh) (m' : MO) (o o7 : Option D), plugs rd c = sh ∧ rd.length ≤ k ∧ IsSt m' ∧ μ' = mup (mup μ s m') p (.lst (roadD rd)) ∧ δ = [some (.ref s), some sh.d, some (.ref p), some c.d, o, none, none, o7]) (fun _ _ _ _ => trivial) ?_ ?_ _ _ ⟨[], sh, m1, none, none, rfl, Nat.le_refl _, hm1, rfl, rfl⟩
  · rintro k δ μ' hk ⟨rd, c, m', o, o7, hpl, hrl, hm', rfl, rfl⟩ QN hN
    have hch : c.ht ≤ 62 := by have := plugs_ht rd c; rw [hpl] at this; omega
    walk_at "js"
    refine ne_sh hch fun b hb => ?_
    walk_at "js"
    refine w_if (fun h => ?_) (fun h => ?_)
    · have hc := hb.mp h
      cases c with
      | lf => exact (hc rfl).elim
      | nd l w r =>
        walk_at "js"
        refine ⟨s, 2, m', rfl, (mup_ne hsp).trans mup_same, hm', by decide, fun z m2 hm2 hz0 _ hz2 => .of ?_⟩
        rw [hcm]
        have hz2 := hz2 (by decide)
        obtain ⟨bb, hbb⟩ : ∃ bb : Bool, 2 * z = (if bb then 2 else 0) := by
          obtain rfl | rfl : z = 0 ∨ z = 1 := by omega
          · exact ⟨false, rfl⟩
          · exact ⟨true, rfl⟩
        walk_at "js"
        rw [hbb]
        refine x_append mup_same (by rw [road_len]; omega) ?_
        rw [mup_mup]
        have er := road_cons ⟨l, w, r, bb⟩ rd
        cases bb with
        | true =>
          walk_at "js"
          refine x_ixT (show atI [l.d, keyT w, r.d] 2 = some r.d from rfl) ?_
          walk_at "js"
          exact hN _ _ ⟨⟨l, w, r, true⟩ :: rd, r, m2, _, _, hpl, by rw [List.length_cons]; omega, hm2, by rw [← er]; rfl, rfl⟩
        | false =>
          walk_at "js"
          refine x_ixT (show atI [l.d, keyT w, r.d] 0 = some l.d from rfl) ?_
          walk_at "js"
          exact hN _ _ ⟨⟨l, w, r, false⟩ :: rd, l, m2, _, _, hpl, by rw [List.length_cons]; omega, hm2, by rw [← er]; rfl, rfl⟩
    · walk_at "js"
      exact hN _ _ ⟨rd, c, m', _, _, hpl, by omega, hm', rfl, rfl⟩
  · rintro δ μ' ⟨rd, c, m', o, o7, hpl, hrl, hm', rfl, rfl⟩
    walk_at "js"
    refine ⟨s, 3, m', rfl, (mup_ne hsp).trans mup_same, hm', by decide, fun st m2 hm2 hst0 _ hst3 => .of ?_⟩
    rw [hcm]
    have hst3 := hst3 (by decide)
    have hrl2 : rd.length < 1000 := by omega
    have fin : ∀ c2 : Sh, c2.ht ≤ c.ht + 2 → c2.sz ≤ c.sz + 2 → Q (plugs rd c2).d (mup μ s m2) := by
      intro c2 h1 h2
      have := plugs_le rd h1 h2
      rw [hpl] at this
      exact q _ m2 hm2 this.1 this.2
    have kz : D.tup [D.str "z"] = keyT ["z"] := keyT_eq (k := ["z"]) (by decide) (by decide +kernel)
    have kyz : D.tup [D.str "y", D.str "z"] = keyT ["y", "z"] := keyT_eq (k := ["y", "z"]) (by decide) (by decide +kernel)
    obtain rfl | rfl | rfl : st = 0 ∨ st = 1 ∨ st = 2 := by omega
    · walk_at "js"
      refine w_ifd (fun _ => ?_) (fun h => absurd rfl h)
      walk_at "js"
      refine w_ifd (fun h => absurd h (by decide)) (fun _ => ?_)
      walk_at "js"
      refine w_ifd (fun h => absurd h (by decide)) (fun _ => ?_)
      refine x_next ?_
      refine x_nx (by assumption) ?_
      exact bent_tail (c := c) (c2 := .lf) hp hsp hrl2 (fin .lf (Nat.zero_le _) (Nat.zero_le _))
    · walk_at "js"
      refine w_ifd (fun h => absurd h (by decide)) (fun _ => ?_)
      walk_at "js"
      refine w_ifd (fun _ => ?_) (fun h => absurd (by decide) h)
      walk_at "js"
      rw [kz]
      refine w_ifd (fun h => absurd h (by decide)) (fun _ => ?_)
      refine x_next ?_
      refine x_nx (by assumption) ?_
      exact bent_tail (c := c) (c2 := .nd c ["z"] .lf) hp hsp hrl2 (fin _ (by show max c.ht 0 + 1 ≤ _; omega) (by show c.sz + 0 + 1 ≤ _; omega))
    · walk_at "js"
      refine w_ifd (fun h => absurd h (by decide)) (fun _ => ?_)
      walk_at "js"
      refine w_ifd (fun _ => ?_) (fun h => absurd (by decide) h)
      walk_at "js"
      rw [kz]
      refine w_ifd (fun _ => ?_) (fun h => absurd rfl h)
      iterate 19 (walk_at "j")
      refine x_nx (by assumption) ?_
      rw [kyz]
      exact bent_tail (c := c) (c2 := .nd .lf ["y", "z"] (.nd c ["z"] .lf)) hp hsp hrl2 (fin _ (by show max 0 (max c.ht 0 + 1) + 1 ≤ _; omega) (by show 0 + (c.sz + 0 + 1) + 1 ≤ _; omega))

/-! ### even shapes -/
theorem cut_take (xs : List D) (i : Nat) : J.cutD xs none (some (i : Int)) = xs.take i := by
  unfold J.cutD
  rw [HT.sIx_none, HT.sIx_nat, List.drop_zero, Nat.sub_zero]
  by_cases h : i ≤ xs.length
  · rw [Nat.min_eq_left h]
  · rw [Nat.min_eq_right (by omega), List.take_length, List.take_of_length_le (by omega)]
theorem cut_drop (xs : List D) (i : Nat) (h : i ≤ xs.length) : J.cutD xs (some (i : Int)) none = xs.drop i := by
  unfold J.cutD
  rw [HT.sIx_none, HT.sIx_nat, Nat.min_eq_left h]
  exact List.take_of_length_le (by rw [List.length_drop]; omega)
def spn_l_even (n : Nat) : Sp2 := fun ds μ Q _ => ∃ ks : List (List Str), ds = [.lst (ks.map keyT)] ∧ ks.length < 2 ^ n ∧ ∀ sh : Sh, sh.ht ≤ n → sh.sz = ks.length → Q sh.d μ
theorem len_l_even (n : Nat) (ds : List D) (μ : Mu) (Q : QE) (ex : Ex2) (h : spn_l_even n ds μ Q ex) : ds.length = 1 := by
  obtain ⟨ks, rfl, _⟩ := h
  rfl
theorem even_nil {sp : Sp2} {μ : Mu} {Q : QE} (q : Q Sh.lf.d μ) : t_l_even sp (ends Q) [some (.lst []), none] μ := by
  unfold t_l_even
  walk_at "js"
  refine w_ifd (fun _ => ?_) (fun h => absurd rfl h)
  walk_at "js"
  exact .of q
theorem even_step {n : Nat} {sp : Sp2} {ks : List (List Str)} {μ : Mu} {Q : QE} (h0 : 0 < ks.length) (hl : ks.length < 2 ^ (n + 1)) (hs : ∀ (ks : List (List Str)) (Q : QE) (ex : Ex2), ks.length < 2 ^ n → (∀ sh : Sh, sh.ht ≤ n → sh.sz = ks.length → Q sh.d μ) → sp [.lst (ks.map keyT)] μ Q ex)
    (q : ∀ sh : Sh, sh.ht ≤ n + 1 → sh.sz = ks.length → Q sh.d μ) : t_l_even sp (ends Q) [some (.lst (ks.map keyT)), none] μ := by
  have hp : 2 ^ (n + 1) = 2 ^ n + 2 ^ n := by rw [Nat.pow_succ]; omega
  have e1 : (((ks.map keyT).length : Nat) : Int) / 2 = ((ks.length / 2 : Nat) : Int) := by rw [List.length_map]; omega
  have e2 : ((ks.length / 2 : Nat) : Int) + 1 = ((ks.length / 2 + 1 : Nat) : Int) := by omega
  have hi : ks.length / 2 < ks.length := by omega
  unfold t_l_even
  walk_at "js"
  refine w_ifd (fun h => by rw [List.length_map] at h; omega) (fun _ => ?_)
  walk_at "js"
  rw [e1]
  refine .inl ⟨_, .f, .f ?_⟩
  rw [cut_take, ← List.map_take]
  walk_at "js"
  refine hs (ks.take (ks.length / 2)) _ _ (by rw [List.length_take]; omega) fun a a1 a2 => .of ?_
  rw [List.length_take] at a2
  walk_at "js"
  refine x_ixL (atI_some (k := ks.length / 2) (by rw [List.getElem?_map, List.getElem?_eq_getElem hi]; rfl)) ?_
  walk_at "js"
  rw [e2]
  refine .inl ⟨_, .f, .f ?_⟩
  rw [cut_drop _ _ (by rw [List.length_map]; omega), ← List.map_drop]
  walk_at "js"
  refine hs (ks.drop (ks.length / 2 + 1)) _ _ (by rw [List.length_drop]; omega) fun b b1 b2 => .of ?_
  rw [List.length_drop] at b2
  walk_at "js"
  exact .of (q (.nd a _ b) (by show max a.ht b.ht + 1 ≤ _; omega) (by show a.sz + b.sz + 1 = _; omega))
theorem pure_l_even_0 (ds : List D) (μ : Mu) (Q : QE) (ex : Ex2) (h : spn_l_even 0 ds μ Q ex) : t_l_even (fun _ _ _ _ => False) (ends Q) (startD ["a", "b"] ds) μ := by
  obtain ⟨ks, rfl, hl, q⟩ := h
  cases ks with
  | nil => exact even_nil (q .lf (Nat.le_refl _) rfl)
  | cons k ks => rw [List.length_cons] at hl; omega
theorem pure_l_even_s (n : Nat) (ds : List D) (μ : Mu) (Q : QE) (ex : Ex2) (h : spn_l_even (n + 1) ds μ Q ex) : t_l_even (spn_l_even n) (ends Q) (startD ["a", "b"] ds) μ := by
  obtain ⟨ks, rfl, hl, q⟩ := h
  cases ks with
  | nil => exact even_nil (q .lf (Nat.zero_le _) rfl)
  | cons k ks => exact even_step (by rw [List.length_cons]; omega) hl (fun ks Q ex h q => ⟨ks, rfl, h, q⟩) q
def sp_l_even : Sp2 := spn_l_even 9
/-! ### plain keys -/
def sp_l_plain_keys : Sp2 := fun ds μ Q _ => ∃ (s : Addr) (m : MO) (n : Nat), ds = [.ref s, .int n] ∧ μ s = some m ∧ IsSt m ∧ n ≤ 396 ∧ ∀ (ks : List (List Str)) (m' : MO), IsSt m' → ks.length = n → Q (.lst (ks.map keyT)) (mup μ s m')
theorem len_l_plain_keys (ds : List D) (μ : Mu) (Q : QE) (ex : Ex2) (h : sp_l_plain_keys ds μ Q ex) : ds.length = 2 := by
  obtain ⟨s, m, n, rfl, _⟩ := h
  rfl
def pkF (f : Nat → List Str) : D → D
  | .int k => keyT (f k.toNat)
  | _ => .non
theorem cast_Y {xs ys : List D} {Y : D → Mu → Prop} {μ : Mu} (e : xs = ys) (h : Y (.tup ys) μ) : Y (.tup xs) μ := by rw [e]; exact h
def t_pk_tail : TS2 := (jRet (jLc (iR1 (jCons (jVar 1) (jNil))) (kName 4) (jYes) (jCB tuple1 (jCons (jOp add2 (jSl (jVar 3) jNoPart (jPart (jC (.int 3)))) (jLst (jCons (jOp add2 (jC (.str ("k" : Str))) (jCB str1 (jCons (jOp mod2 (jCB int1 (jCons (jVar 4) (jNil))) (jVar 2)) (jNil)))) (jNil)))) (jNil))) [4]))
theorem num_len : ∀ n : Fin 400, (PySem.Str.ofString (toString ((n.1 : Nat) : Int))).length ≤ 10 := by decide +kernel
def numS (n : Nat) : Str := PySem.Str.ofString (toString ((n : Nat) : Int))
theorem pk_tail {s : Addr} {n rp : Nat} {ws : List Str} {μ : Mu} {Q : QE} (hn : n ≤ 396) (h1 : 1 ≤ rp) (h2 : rp ≤ 397) (hws : ∀ x ∈ ws, PySem.PyData.strOk x = true) (q : ∀ ks : List (List Str), ks.length = n → Q (.lst (ks.map keyT)) μ) :
    t_pk_tail (ends Q) [some (.ref s), some (.int n), some (.int rp), some (.lst (ws.map D.str)), none] μ := by
  have hszl := sizeLine_eq
  have hrp : (0 : Int) < rp := by omega
  unfold t_pk_tail
  walk_at "js"
  refine ⟨n, rfl, by unfold rngOk; omega, ?_⟩
  refine lc_map (pkF fun k => ws.take 3 ++ ["k" ++ numS (k % rp)]) _ (by unfold rngD; rw [List.length_map, List.length_range]; omega) (fun x hx Y hY => ?_) (.f ?_)
  · obtain ⟨i, hi, rfl⟩ := List.mem_map.mp hx
    have hi : i < Int.toNat n := List.mem_range.mp hi
    rw [Int.zero_add] at hY ⊢
    have hm : i % rp < 400 := Nat.lt_trans (Nat.mod_lt i (by omega)) (by omega)
    have em : ((i : Nat) : Int) % ((rp : Nat) : Int) = ((i % rp : Nat) : Int) := (Int.natCast_emod i rp).symm
    walk_at "js"
    refine .inl ⟨_, .f, .f ?_⟩
    rw [show ((3 : Int)) = ((3 : Nat) : Int) from rfl, cut_take, ← List.map_take]
    walk_at "js"
    rw [em]
    refine ⟨small_log (Nat.lt_trans hm (by decide)), ?_⟩
    walk_at "js"
    refine x_addS (by have := num_len ⟨i % rp, hm⟩; have e : (("k" : Str)).length = 1 := by decide +kernel
                      rw [e]; show 1 + (PySem.Str.ofString (toString ((i % rp : Nat) : Int))).length ≤ _; simp only at this; omega) ?_
    walk_at "js"
    refine .f ?_
    refine x_addL (by rw [List.length_map, List.length_take]; show _ + 1 ≤ _; omega) (.f ?_)
    walk_at "js"
    have e : (ws.take 3).map D.str ++ [D.str (("k" : Str) ++ numS (i % rp))] = (ws.take 3 ++ ["k" ++ numS (i % rp)]).map D.str := by simp
    refine cast_Y e ?_
    rw [keyT_eq (by rw [List.length_append, List.length_take, List.length_singleton]; omega)]
    · exact hY
    · intro x hx
      rcases List.mem_append.mp hx with h | h
      · exact hws x (List.mem_of_mem_take h)
      · rw [List.mem_singleton.mp h]
        exact strOk_append (by decide +kernel) (strOk_num ⟨i % rp, hm⟩)
  · have e : (rngD 0 (Int.toNat (n : Int))).map (pkF fun k => ws.take 3 ++ ["k" ++ numS (k % rp)]) = ((List.range n).map fun i => ws.take 3 ++ ["k" ++ numS (i % rp)]).map keyT := by
      rw [Int.toNat_natCast]
      unfold rngD
      rw [List.map_map, List.map_map]
      refine List.map_congr_left fun i _ => ?_
      show pkF _ (.int (0 + (i : Int))) = _
      rw [Int.zero_add]
      rfl
    rw [e]
    exact .of (q _ (by rw [List.length_map, List.length_range]))
theorem pure_l_plain_keys (ds : List D) (μ : Mu) (Q : QE) (ex : Ex2) (h : sp_l_plain_keys ds μ Q ex) : t_l_plain_keys sp_l_take sp_l_key (ends Q) (startD ["a", "b", "c", "d", "e"] ds) μ := by
  obtain ⟨s, m, n, rfl, hs, hm, hn, q⟩ := h
  have hszl := sizeLine_eq
  unfold t_l_plain_keys
  show jSeq _ _ (ends Q) [some _, some _, none, none, none] μ
  walk_at "js"
  refine ⟨s, n, m, rfl, hs, hm, by omega, fun r m1 hm1 hr0 hr1 hr2 => .of ?_⟩
  walk_at "js"
  refine ⟨s, m1, 0, rfl, mup_same, hm1, by decide, fun ws m2 hm2 hwl hws => .of ?_⟩
  rw [mup_mup]
  rw [← keyT_eq (by omega) hws]
  walk_at "js"
  refine .f ?_
  walk_at "js"
  refine ⟨s, 2, m2, rfl, mup_same, hm2, by decide, fun z m3 hm3 _ _ _ => .of ?_⟩
  rw [mup_mup]
  walk_at "js"
  have hr : 0 ≤ r ∧ r ≤ 396 := by
    by_cases h : (n : Int) < 2
    · rw [hr1 h]; omega
    · have := hr2 (by omega); omega
  obtain ⟨rr, rfl⟩ := Int.eq_ofNat_of_zero_le hr.1
  refine w_ifd (fun _ => ?_) (fun _ => ?_)
  · iterate 6 (walk_at "j")
    refine x_nx (by assumption) ?_
    have e : ((n : Nat) : Int) + 1 = ((n + 1 : Nat) : Int) := by omega
    rw [e]
    exact pk_tail hn (by omega) (by omega) hws fun ks hk => q ks m3 hm3 hk
  · refine x_next ?_
    refine x_nx (by assumption) ?_
    have e : (1 : Int) + ((rr : Nat) : Int) = ((1 + rr : Nat) : Int) := by omega
    rw [e]
    exact pk_tail hn (by omega) (by omega) hws fun ks hk => q ks m3 hm3 hk

/-! ### spines -/
def sp_l_spine : Sp2 := fun ds μ Q _ => ∃ (s : Addr) (m : MO), ds = [.ref s] ∧ μ s = some m ∧ IsSt m ∧ ∀ (sh : Sh) (m' : MO), IsSt m' → sh.ht ≤ 60 → sh.sz ≤ 400 → Q sh.d (mup μ s m')
theorem len_l_spine (ds : List D) (μ : Mu) (Q : QE) (ex : Ex2) (h : sp_l_spine ds μ Q ex) : ds.length = 1 := by
  obtain ⟨s, m, rfl, _⟩ := h
  rfl
theorem sp_key_eq (k : Nat) (h : k < 400) : D.tup [D.str "s", D.str (numS k)] = keyT ["s", numS k] := keyT_eq (k := ["s", numS k]) (by show 2 ≤ 9; decide) (by
  intro x hx
  simp only [List.mem_cons, List.not_mem_nil, or_false] at hx
  rcases hx with rfl | rfl
  · decide +kernel
  · exact strOk_num ⟨k, h⟩)
theorem ht_le : ∀ s : Sh, s.ht ≤ s.sz
  | .lf => Nat.le_refl _
  | .nd l k r => by
    have := ht_le l
    have := ht_le r
    show max l.ht r.ht + 1 ≤ l.sz + r.sz + 1
    omega
theorem pure_l_spine (ds : List D) (μ : Mu) (Q : QE) (ex : Ex2) (h : sp_l_spine ds μ Q ex) : t_l_spine sp_l_even sp_l_plain_keys sp_l_between sp_l_take (ends Q) (startD ["a", "b", "c", "d", "e"] ds) μ := by
  obtain ⟨s, m, rfl, hs, hm, q⟩ := h
  unfold t_l_spine
  show jSeq _ _ (ends Q) [some _, none, none, none, none] μ
  walk_at "js"
  refine ⟨s, 8, m, rfl, hs, hm, by decide, fun r m1 hm1 h0 _ h8 => .of ?_⟩
  have h8 := h8 (by decide)
  obtain ⟨j, rfl⟩ := Int.eq_ofNat_of_zero_le h0
  walk_at "js"
  refine ⟨s, m1, j, rfl, mup_same, hm1, by omega, fun ks m2 hm2 hk => .of ?_⟩
  rw [mup_mup]
  walk_at "js"
  refine ⟨ks, rfl, Nat.lt_of_lt_of_le (show ks.length < 8 by omega) (by decide), fun c _ c2 => .of ?_⟩
  have hc := ht_le c
  have hc7 : c.sz ≤ 7 := by omega
  walk_at "js"
  refine ⟨s, m2, 0, 50, rfl, mup_same, hm2, by decide, by decide, fun n m3 hm3 hn0 hn5 => .of ?_⟩
  rw [mup_mup]
  obtain ⟨n, rfl⟩ := Int.eq_ofNat_of_zero_le hn0
  refine ⟨_, rfl, by unfold rngOk; omega, ?_⟩
  refine loop_rng (fun k δ μ' => ∃ (sh : Sh) (m' : MO) (o u : Option D), sh.ht ≤ k + 7 ∧ sh.sz ≤ 8 * k ∧ IsSt m' ∧ μ' = mup μ s m' ∧ δ = [some (.ref s), some sh.d, some c.d, o, u]) (fun _ _ _ _ => trivial) ?_ ?_ _ _ ⟨.lf, m3, none, none, Nat.zero_le _, Nat.zero_le _, hm3, rfl, rfl⟩
  · rintro k δ μ' hk ⟨sh, m', o, u, h1, h2, hm', rfl, rfl⟩ QN hN
    have hk4 : k < 400 := by
      have : Int.toNat ((n : Nat) : Int) = n := Int.toNat_natCast n
      omega
    walk_at "js"
    refine ⟨small_log (Nat.lt_trans hk4 (by decide)), ?_⟩
    walk_at "js"
    refine ⟨s, 2, m', rfl, mup_same, hm', by decide, fun r m3 hm3 _ _ _ => .of ?_⟩
    rw [mup_mup]
    have ek : D.tup [D.str "s", D.str (PySem.Str.ofString (toString ((k : Nat) : Int)))] = keyT ["s", numS k] := sp_key_eq k hk4
    walk_at "js"
    refine w_ifd (fun _ => ?_) (fun _ => ?_)
    · walk_at "js"
      refine hN _ _ ⟨.nd sh ["s", numS k] c, m3, some (.int k), some (D.tup [D.str "s", D.str (PySem.Str.ofString (toString ((k : Nat) : Int)))]), by show max sh.ht c.ht + 1 ≤ _; omega, by show sh.sz + c.sz + 1 ≤ _; omega, hm3, rfl, ?_⟩
      show _ = [some (D.ref s), some (D.tup [sh.d, keyT ["s", numS k], c.d]), some c.d, some (.int k), some (D.tup [D.str "s", D.str (PySem.Str.ofString (toString ((k : Nat) : Int)))])]
      rw [← ek]
    · walk_at "js"
      refine hN _ _ ⟨.nd c ["s", numS k] sh, m3, some (.int k), some (D.tup [D.str "s", D.str (PySem.Str.ofString (toString ((k : Nat) : Int)))]), by show max c.ht sh.ht + 1 ≤ _; omega, by show c.sz + sh.sz + 1 ≤ _; omega, hm3, rfl, ?_⟩
      show _ = [some (D.ref s), some (D.tup [c.d, keyT ["s", numS k], sh.d]), some c.d, some (.int k), some (D.tup [D.str "s", D.str (PySem.Str.ofString (toString ((k : Nat) : Int)))])]
      rw [← ek]
  · rintro δ μ' ⟨sh, m', o, u, h1, h2, hm', rfl, rfl⟩
    have : Int.toNat ((n : Nat) : Int) = n := Int.toNat_natCast n
    walk_at "js"
    exact .of (q sh m' hm' (by omega) (by omega))

structure Ext (μ : Mu) (s : Addr) (m : MO) (μ' : Mu) : Prop where
  gs : μ' s = some m
  gi : IsSt m
  ge : ∀ a o, a ≠ s → μ a = some o → μ' a = some o
theorem Ext.st {μ μ' : Mu} {s : Addr} {m m2 : MO} (h : Ext μ s m μ') (hi : IsSt m2) : Ext μ s m2 (mup μ' s m2) := ⟨mup_same, hi, fun a o ha e => (mup_ne ha).trans (h.ge a o ha e)⟩
theorem Ext.fresh {μ μ' : Mu} {s p : Addr} {m : MO} (h : Ext μ s m μ') (hs : μ s ≠ none) (hp : μ' p = none) : s ≠ p ∧ μ p = none := by
  have h1 : s ≠ p := fun z => by rw [← z, h.gs] at hp; cases hp
  refine ⟨h1, ?_⟩
  cases e : μ p with
  | none => rfl
  | some o => rw [h.ge p o (Ne.symm h1) e] at hp; cases hp
theorem Ext.new {μ μ' : Mu} {s p : Addr} {m o : MO} (h : Ext μ s m μ') (hsp : s ≠ p) (hp : μ p = none) : Ext μ s m (mup μ' p o) :=
  ⟨(mup_ne hsp).trans h.gs, h.gi, fun a u ha e => (mup_ne (fun z => by rw [z, hp] at e; cases e)).trans (h.ge a u ha e)⟩
theorem Ext.drop {μ μ' : Mu} {s : Addr} {m : MO} (h : Ext μ s m μ') : Le (mup μ s m) μ' := by
  intro a o e
  by_cases ha : a = s
  · subst ha; rw [mup_same] at e; rw [h.gs]; exact e
  · rw [mup_ne ha] at e; exact h.ge a o ha e
/-! ### any shape -/
theorem Ext.zero {μ : Mu} {s : Addr} {m : MO} (h : μ s = some m) (hm : IsSt m) : Ext μ s m μ := ⟨h, hm, fun _ _ _ e => e⟩
/-- a drawn balanced shape, the list thrown away -/
theorem bal_call {s : Addr} {m1 : MO} {μ μ' : Mu} {h : Nat} {Q : QE} {ex : Ex2} {p : Addr} (x : Ext μ s m1 μ') (hs : μ s ≠ none) (hp : μ' p = none) (hh : h ≤ 6)
    (q : ∀ (sh : Sh) (m' : MO) (μ2 : Mu), Ext μ s m' μ2 → sh.ht ≤ 6 → sh.sz ≤ 63 → Q sh.d μ2) : sp_l_balanced ([.ref s, .int h, .ref p] ++ []) (mup μ' p (.lst [])) Q ex := by
  obtain ⟨hsp, hp0⟩ := x.fresh hs hp
  have hpow : 2 ^ h ≤ 2 ^ 6 := Nat.pow_le_pow_right (by decide) hh
  refine ⟨s, m1, p, [], h, rfl, hsp, (mup_ne hsp).trans x.gs, x.gi, mup_same, by omega, by simp only [List.length_nil]; omega, fun sh m' ys hm' a1 a2 a3 _ => ?_⟩
  exact q sh m' _ (((x.new hsp hp0).st hm').new hsp hp0) (by omega) (by omega)
def sp_l_shape : Sp2 := fun ds μ Q _ => ∃ (s : Addr) (m : MO), ds = [.ref s] ∧ μ s = some m ∧ IsSt m ∧ ∀ (sh : Sh) (m' : MO), IsSt m' → sh.ht ≤ 60 → sh.sz ≤ 400 → Q sh.d (mup μ s m')
theorem len_l_shape (ds : List D) (μ : Mu) (Q : QE) (ex : Ex2) (h : sp_l_shape ds μ Q ex) : ds.length = 1 := by
  obtain ⟨s, m, rfl, _⟩ := h
  rfl
theorem pure_l_shape (ds : List D) (μ : Mu) (Q : QE) (ex : Ex2) (h : sp_l_shape ds μ Q ex) : t_l_shape sp_l_take sp_l_balanced sp_l_bent_shape sp_l_chain sp_l_least_shape sp_l_between sp_l_key (ends Q) (startD ["a", "b", "c", "d"] ds) μ := by
  obtain ⟨s, m, rfl, hs, hm, q⟩ := h
  have hsn : μ s ≠ none := by rw [hs]; simp
  unfold t_l_shape
  show jSeq _ _ (ends Q) [some _, none, none, none] μ
  have fin : ∀ (sh : Sh) (m' : MO) (μ2 : Mu), Ext μ s m' μ2 → sh.ht ≤ 60 → sh.sz ≤ 400 → Upd Q sh.d μ2 := fun sh m' μ2 x h1 h2 => .drop x.drop (q sh m' x.gi h1 h2)
  walk_at "js"
  refine ⟨s, 8, m, rfl, hs, hm, by decide, fun st m1 hm1 _ _ _ => .of ?_⟩
  have x := (Ext.zero hs hm).st hm1
  walk_at "js"
  refine w_ifd (fun _ => ?_) (fun _ => ?_)
  · walk_at "js"
    refine ⟨s, m1, 0, 60, rfl, mup_same, hm1, by decide, by decide, fun n m2 hm2 hn0 hn6 => .of ?_⟩
    obtain ⟨n, rfl⟩ := Int.eq_ofNat_of_zero_le hn0
    walk_at "js"
    refine ⟨s, m2, n, rfl, mup_same, hm2, by omega, fun sh m3 hm3 h1 h2 => .of ?_⟩
    exact fin sh m3 _ ((x.st hm2).st hm3) (by omega) (by omega)
  walk_at "js"
  refine w_ifd (fun _ => ?_) (fun _ => ?_)
  · walk_at "js"
    refine ⟨s, 9, m1, rfl, mup_same, hm1, by decide, fun n m2 hm2 hn0 _ hn9 => .of ?_⟩
    have hn9 := hn9 (by decide)
    obtain ⟨n, rfl⟩ := Int.eq_ofNat_of_zero_le hn0
    walk_at "js"
    refine ⟨s, 2, m2, rfl, mup_same, hm2, by decide, fun z m3 hm3 _ _ _ => .of ?_⟩
    walk_at "js"
    refine ⟨n, _, rfl, by omega, fun B b1 b2 b3 => .of ?_⟩
    rw [Int.toNat_natCast] at b1 b3
    have hB : B.sz ≤ 54 := by
      have := ls_mono (show n ≤ 8 by omega)
      have e : ls 8 = 54 := by decide +kernel
      omega
    exact fin B m3 _ ((x.st hm2).st hm3) (by omega) (by omega)
  generalize mup μ s m1 = μ1 at *
  walk_at "js"
  refine ⟨s, 7, m1, rfl, x.gs, hm1, by decide, fun n m2 hm2 hn0 _ hn7 => .of ?_⟩
  have hn7 := hn7 (by decide)
  obtain ⟨n, rfl⟩ := Int.eq_ofNat_of_zero_le hn0
  have x := x.st hm2
  generalize mup μ1 s m2 = μ2 at *
  walk_at "js"
  refine .m fun p hp => ?_
  walk_at "js"
  refine bal_call x hsn hp (by omega) fun A m3 μ3 x a1 a2 => .of ?_
  walk_at "js"
  refine w_ifd (fun _ => ?_) (fun _ => ?_)
  · walk_at "js"
    exact fin A m3 _ x (by omega) (by omega)
  walk_at "js"
  refine w_ifd (fun _ => ?_) (fun _ => ?_)
  · walk_at "js"
    refine ⟨s, 7, m3, rfl, x.gs, x.gi, by decide, fun n m4 hm4 hn0 _ hn7 => .of ?_⟩
    have hn7 := hn7 (by decide)
    obtain ⟨n, rfl⟩ := Int.eq_ofNat_of_zero_le hn0
    have x := x.st hm4
    generalize mup μ3 s m4 = μ4 at *
    walk_at "js"
    refine .m fun p hp => ?_
    walk_at "js"
    refine bal_call x hsn hp (by omega) fun B m5 μ5 x b1 b2 => .of ?_
    walk_at "js"
    refine ⟨s, m5, 0, rfl, x.gs, x.gi, by decide, fun ws m6 hm6 _ _ => .of ?_⟩
    walk_at "js"
    exact fin (.nd A ws B) m6 _ (x.st hm6) (by show max A.ht B.ht + 1 ≤ _; omega) (by show A.sz + B.sz + 1 ≤ _; omega)
  walk_at "js"
  refine w_ifd (fun _ => ?_) (fun _ => ?_)
  · walk_at "js"
    refine ⟨s, m3, 1, rfl, x.gs, x.gi, by decide, fun ws m4 hm4 _ _ => .of ?_⟩
    walk_at "js"
    refine ⟨s, 9, m4, rfl, mup_same, hm4, by decide, fun n m5 hm5 hn0 _ hn9 => .of ?_⟩
    have hn9 := hn9 (by decide)
    obtain ⟨n, rfl⟩ := Int.eq_ofNat_of_zero_le hn0
    walk_at "js"
    refine ⟨s, m5, n, rfl, mup_same, hm5, by omega, fun B m6 hm6 b1 b2 => .of ?_⟩
    walk_at "js"
    exact fin (.nd A ws B) m6 _ (((x.st hm4).st hm5).st hm6) (by show max A.ht B.ht + 1 ≤ _; omega) (by show A.sz + B.sz + 1 ≤ _; omega)
  walk_at "js"
  refine ⟨s, m3, A, rfl, x.gs, x.gi, by omega, fun B m4 hm4 b1 b2 => .of ?_⟩
  exact fin B m4 _ (x.st hm4) (by omega) (by omega)
def sp_l_any_shape : Sp2 := sp_l_shape
theorem len_l_any_shape (ds : List D) (μ : Mu) (Q : QE) (ex : Ex2) (h : sp_l_any_shape ds μ Q ex) : ds.length = 1 := len_l_shape ds μ Q ex h
theorem pure_l_any_shape (ds : List D) (μ : Mu) (Q : QE) (ex : Ex2) (h : sp_l_any_shape ds μ Q ex) : t_l_any_shape sp_l_take sp_l_even sp_l_shape sp_l_spine sp_l_plain_keys sp_l_bent_shape sp_l_between (ends Q) (startD ["a", "b", "c"] ds) μ := by
  obtain ⟨s, m, rfl, hs, hm, q⟩ := h
  unfold t_l_any_shape
  show jSeq _ _ (ends Q) [some _, none, none] μ
  have fin : ∀ (sh : Sh) (m' : MO) (μ2 : Mu), Ext μ s m' μ2 → sh.ht ≤ 60 → sh.sz ≤ 400 → Upd Q sh.d μ2 := fun sh m' μ2 x h1 h2 => .drop x.drop (q sh m' x.gi h1 h2)
  walk_at "js"
  refine ⟨s, 10, m, rfl, hs, hm, by decide, fun st m1 hm1 _ _ _ => .of ?_⟩
  have x := (Ext.zero hs hm).st hm1
  walk_at "js"
  refine w_ifd (fun _ => ?_) (fun _ => ?_)
  · walk_at "js"
    refine ⟨s, m1, rfl, mup_same, hm1, fun sh m2 hm2 h1 h2 => .of ?_⟩
    exact fin sh m2 _ (x.st hm2) h1 h2
  walk_at "js"
  refine w_ifd (fun _ => ?_) (fun _ => ?_)
  · walk_at "js"
    refine ⟨s, m1, rfl, mup_same, hm1, fun sh m2 hm2 h1 h2 => .of ?_⟩
    exact fin sh m2 _ (x.st hm2) h1 h2
  walk_at "js"
  refine ⟨s, m1, 0, 40, rfl, mup_same, hm1, by decide, by decide, fun n m2 hm2 hn0 hn5 => .of ?_⟩
  obtain ⟨n, rfl⟩ := Int.eq_ofNat_of_zero_le hn0
  have x := x.st hm2
  generalize mup (mup μ s m1) s m2 = μ2 at *
  walk_at "js"
  refine ⟨s, m2, n, rfl, x.gs, hm2, by omega, fun ks m3 hm3 hk => .of ?_⟩
  have x := x.st hm3
  generalize mup μ2 s m3 = μ3 at *
  walk_at "js"
  refine ⟨ks, rfl, Nat.lt_of_lt_of_le (show ks.length < 64 by omega) (by decide), fun c c1 c2 => .of ?_⟩
  have tail : ∀ (c : Sh) (m' : MO) (μ' : Mu), Ext μ s m' μ' → c.ht ≤ 9 → c.sz ≤ 396 → jSeq (jIfS (jTest (jOp lt2 (jVar 1) (jC (.int 9)))) (jRet (jCall sp_l_bent_shape [] noEx (jCons (jVar 0) (jCons (jVar 2) jNil)))) jNext) (jRet (jVar 2)) (ends Q) [some (.ref s), some (.int st), some c.d] μ' := by
    intro c m' μ' x c1 c2
    walk_at "js"
    refine w_ifd (fun _ => ?_) (fun _ => ?_)
    · walk_at "js"
      refine ⟨s, m', c, rfl, x.gs, x.gi, by omega, fun B m4 hm4 b1 b2 => .of ?_⟩
      exact fin B m4 _ (x.st hm4) (by omega) (by omega)
    · walk_at "js"
      exact fin c m' _ x (by omega) (by omega)
  walk_at "js"
  refine w_ifd (fun _ => ?_) (fun _ => ?_)
  · walk_at "js"
    refine ⟨s, m3, 0, 396, rfl, x.gs, x.gi, by decide, by decide, fun n m4 hm4 hn0 hn5 => .of ?_⟩
    obtain ⟨n, rfl⟩ := Int.eq_ofNat_of_zero_le hn0
    have x := x.st hm4
    generalize mup μ3 s m4 = μ4 at *
    walk_at "js"
    refine ⟨s, m4, n, rfl, x.gs, hm4, by omega, fun ks m5 hm5 hk => .of ?_⟩
    have x := x.st hm5
    generalize mup μ4 s m5 = μ5 at *
    walk_at "js"
    refine ⟨ks, rfl, Nat.lt_of_lt_of_le (show ks.length < 512 by omega) (by decide), fun c c1 c2 => .of ?_⟩
    refine x_name (by dsimp only [List.set]) ?_
    refine x_nx (by assumption) ?_
    exact tail c m5 _ x c1 (by omega)
  · refine x_next ?_
    refine x_nx (by assumption) ?_
    exact tail c m3 _ x c1 (by omega)

/-! ### judged, the law -/
def sp_l_judged : Sp2 := fun ds μ Q _ => ∃ sh : Sh, ds = [sh.d] ∧ sh.ht ≤ 60 ∧ sh.sz ≤ 400 ∧ Q (.bl true) μ
theorem len_l_judged (ds : List D) (μ : Mu) (Q : QE) (ex : Ex2) (h : sp_l_judged ds μ Q ex) : ds.length = 1 := by
  obtain ⟨sh, rfl, _⟩ := h
  rfl
theorem le_fresh {μ : Mu} {p : Addr} {o : MO} (h : μ p = none) : Le μ (mup μ p o) := by
  intro a u e
  have : a ≠ p := fun z => by rw [z, h] at e; cases e
  rw [mup_ne this]; exact e
theorem sm_int {μ : Mu} {n : Nat} (i : Int) : Sm μ n (.int i) (.int i) := by
  cases n with
  | zero => exact .inl ⟨i, rfl, rfl⟩
  | succ n => exact .inl (.inl ⟨i, rfl, rfl⟩)
theorem sm_bl {μ : Mu} {n : Nat} (i : Bool) : Sm μ n (.bl i) (.bl i) := by
  cases n with
  | zero => exact .inr (.inl ⟨i, rfl, rfl⟩)
  | succ n => exact .inl (.inr (.inl ⟨i, rfl, rfl⟩))
theorem sm_str {μ : Mu} {n : Nat} (i : Str) : Sm μ n (.str i) (.str i) := by
  cases n with
  | zero => exact .inr (.inr ⟨i, rfl, rfl⟩)
  | succ n => exact .inl (.inr (.inr ⟨i, rfl, rfl⟩))
theorem sm_key {μ : Mu} {n : Nat} (w : List Str) : Sm μ (n + 1) (keyT w) (keyT w) := by
  refine .inr ⟨_, _, .inr ⟨rfl, rfl⟩, rfl, ?_, fun k d e h1 h2 => ?_⟩
  · rw [List.length_map, List.length_take]; omega
  · rw [h1] at h2
    cases h2
    obtain ⟨x, _, rfl⟩ := List.mem_map.mp (List.mem_of_getElem? h1)
    exact sm_str _
theorem sm_keys2 {μ : Mu} {n : Nat} {p q : Addr} {ks : List (List Str)} (hp : μ p = some (.lst (ks.map keyT))) (hq : μ q = some (.lst (ks.map keyT))) (hl : ks.length < 100000) : Sm μ (n + 2) (.ref p) (.ref q) := by
  refine .inr ⟨_, _, .inl ⟨.inl (.m hp), .inl (.m hq)⟩, rfl, by rw [List.length_map]; exact hl, fun k d e h1 h2 => ?_⟩
  rw [h1] at h2
  cases h2
  obtain ⟨x, _, rfl⟩ := List.mem_map.mp (List.mem_of_getElem? h1)
  exact sm_key x
theorem sm_three {μ : Mu} {n : Nat} {a b c a' b' c' : D} (h1 : Sm μ n a a') (h2 : Sm μ n b b') (h3 : Sm μ n c c') : Sm μ (n + 1) (.lst [a, b, c]) (.lst [a', b', c']) := by
  refine .inr ⟨_, _, .inl ⟨.f, .f⟩, rfl, by show 3 < 100000; decide, fun k d e h4 h5 => ?_⟩
  match k, h4, h5 with
  | 0, h4, h5 => cases h4; cases h5; exact h1
  | 1, h4, h5 => cases h4; cases h5; exact h2
  | 2, h4, h5 => cases h4; cases h5; exact h3
  | k + 3, h4, _ => cases h4
theorem pure_l_judged (ds : List D) (μ : Mu) (Q : QE) (ex : Ex2) (h : sp_l_judged ds μ Q ex) : t_l_judged sp_l_measured sp_l_same sp_is_balanced sp_shape_height sp_shape_keys (ends Q) (startD ["a", "b", "c", "d"] ds) μ := by
  obtain ⟨sh, rfl, hht, hsz, q⟩ := h
  have hkl : sh.ks.length < 100000 := by rw [Sh.ks_len]; omega
  have hszl := sizeLine_eq
  unfold t_l_judged
  show jSeq _ _ (ends Q) [some _, none, none, none] μ
  walk_at "js"
  refine ⟨sh, rfl, hsz, fun p hp => .of ?_⟩
  walk_at "js"
  refine ⟨sh, rfl, by omega, .of ?_⟩
  walk_at "js"
  refine ⟨sh, rfl, by omega, .of ?_⟩
  walk_at "js"
  refine ⟨sh, rfl, by omega, by omega, fun p2 hp2 => .of ?_⟩
  have h12 : p ≠ p2 := fun z => by rw [← z, mup_same] at hp2; cases hp2
  have hp20 : μ p2 = none := by rw [mup_ne (Ne.symm h12)] at hp2; exact hp2
  walk_at "js"
  refine .f ?_
  walk_at "js"
  refine .f ?_
  walk_at "js"
  refine ⟨_, _, rfl, sm_three (sm_bl _) (sm_int _) (sm_keys2 mup_same ((mup_ne h12).trans mup_same) hkl), .of ?_⟩
  walk_at "js"
  refine w_false ?_
  walk_at "js"
  refine x_append mup_same (by rw [List.length_map]; omega) ?_
  rw [mup_mup]
  walk_at "js"
  refine x_reverse mup_same ?_
  rw [mup_mup]
  walk_at "js"
  refine ⟨sh, rfl, by omega, .of ?_⟩
  walk_at "js"
  refine ⟨sh, rfl, by omega, .of ?_⟩
  walk_at "js"
  refine ⟨sh, rfl, by omega, by omega, fun p3 hp3 => .of ?_⟩
  have h23 : p2 ≠ p3 := fun z => by rw [← z, mup_same] at hp3; cases hp3
  have h13 : p ≠ p3 := fun z => by rw [← z, mup_ne h12, mup_same] at hp3; cases hp3
  have hp30 : μ p3 = none := by rw [mup_ne (Ne.symm h23), mup_ne (Ne.symm h13)] at hp3; exact hp3
  walk_at "js"
  refine .f ?_
  walk_at "js"
  refine .f ?_
  walk_at "js"
  refine ⟨_, _, rfl, sm_three (sm_bl _) (sm_int _) (sm_keys2 mup_same ((mup_ne h13).trans ((mup_ne h12).trans mup_same)) hkl), .of ?_⟩
  refine .drop (μ' := μ) ?_ q
  intro a u e
  have a1 : a ≠ p := fun z => by rw [z, hp] at e; cases e
  have a2 : a ≠ p2 := fun z => by rw [z, hp20] at e; cases e
  have a3 : a ≠ p3 := fun z => by rw [z, hp30] at e; cases e
  rw [mup_ne a3, mup_ne a2, mup_ne a1]; exact e

structure Good (sh : Sh) : Prop where
  h : sh.ht ≤ 60
  z : sh.sz ≤ 400
def sp_law : Sp2 := fun ds _ Q _ => ∃ ns : List Int, ds = [.rol (ns.map D.int)] ∧ ns.length ≤ 63 ∧ ∀ μ', Q (.bl true) μ'
theorem start_law : Start sp_law := fun ns _ _ hl q => ⟨ns, rfl, hl, q⟩
theorem len_law (ds : List D) (μ : Mu) (Q : QE) (ex : Ex2) (h : sp_law ds μ Q ex) : ds.length = 1 := by
  obtain ⟨n, rfl, _⟩ := h
  rfl
theorem pure_law (ds : List D) (μ : Mu) (Q : QE) (ex : Ex2) (h : sp_law ds μ Q ex) : t_law sp_l_store sp_l_any_shape sp_l_judged (ends Q) (startD ["a", "b", "c", "d", "e", "f"] ds) μ := by
  obtain ⟨ns, rfl, hl, q⟩ := h
  have hszl := sizeLine_eq
  unfold t_law
  show jSeq _ _ (ends Q) [some _, none, none, none, none, none] μ
  walk_at "js"
  refine ⟨ns, rfl, hl, fun s m0 hs0 hm0 => .of ?_⟩
  walk_at "js"
  refine ⟨s, m0, rfl, mup_same, hm0, fun A m1 hm1 a1 a2 => .of ?_⟩
  rw [mup_mup]
  walk_at "js"
  refine ⟨s, m1, rfl, mup_same, hm1, fun B m2 hm2 b1 b2 => .of ?_⟩
  rw [mup_mup]
  have gA : Good A := ⟨a1, a2⟩
  have gB : Good B := ⟨b1, b2⟩
  generalize mup μ s m2 = μ2 at *
  walk_at "js"
  refine .f ?_
  walk_at "js"
  refine .f ?_
  walk_at "js"
  refine loop_inv (fun rs δ μ' => μ' = μ2 ∧ ∃ (rest shs : List Sh) (o : Option D), rs = rest.map Sh.d ∧ shs.length + 2 * rest.length ≤ 7 ∧ (∀ x ∈ rest, Good x) ∧ (∀ x ∈ shs, Good x) ∧ δ = [some (.rol (ns.map D.int)), some (.ref s), some A.d, some B.d, some (.lst (shs.map Sh.d)), o]) (fun _ _ _ _ => trivial) ?_ ?_ _ _ _ ⟨rfl, [A, B], [A, B, A], none, rfl, Nat.le_refl _, ?_, ?_, rfl⟩
  · rintro x rs δ μ' ⟨rfl, rest, shs, o, hr, hlen, hg, hg2, rfl⟩ QN hN
    cases rest with
    | nil => cases hr
    | cons x rest =>
      cases hr
      rw [List.length_cons] at hlen
      have gx := hg x (List.mem_cons_self ..)
      have hrest : ∀ y ∈ rest, Good y := fun y hy => hg y (List.mem_cons_of_mem _ hy)
      walk_at "js"
      refine ne_sh (Nat.le_trans gx.h (by decide)) fun b hb => ?_
      walk_at "js"
      refine w_if (fun h => ?_) (fun h => ?_)
      · have hc := hb.mp h
        cases x with
        | lf => exact (hc rfl).elim
        | nd l w r =>
          have g1 : Good l := ⟨by have : max l.ht r.ht + 1 ≤ 60 := gx.h; omega, by have : l.sz + r.sz + 1 ≤ 400 := gx.z; omega⟩
          have g2 : Good r := ⟨by have : max l.ht r.ht + 1 ≤ 60 := gx.h; omega, by have : l.sz + r.sz + 1 ≤ 400 := gx.z; omega⟩
          walk_at "js"
          refine x_ixT (show atI [l.d, keyT w, r.d] 0 = some l.d from rfl) ?_
          walk_at "js"
          refine x_ixT (show atI [l.d, keyT w, r.d] 2 = some r.d from rfl) ?_
          walk_at "js"
          refine .f ?_
          refine x_addL (by rw [List.length_map]; show _ + 2 ≤ _; omega) (.f ?_)
          have e : shs.map Sh.d ++ [l.d, r.d] = (shs ++ [l, r]).map Sh.d := by simp
          rw [e]
          walk_at "js"
          refine hN _ _ ⟨rfl, rest, shs ++ [l, r], _, rfl, by rw [List.length_append]; show shs.length + 2 + _ ≤ _; omega, hrest, ?_, rfl⟩
          intro y hy
          rcases List.mem_append.mp hy with h | h
          · exact hg2 y h
          · simp only [List.mem_cons, List.not_mem_nil, or_false] at h
            rcases h with rfl | rfl
            · exact g1
            · exact g2
      · walk_at "js"
        exact hN _ _ ⟨rfl, rest, shs, _, rfl, by omega, hrest, hg2, rfl⟩
  · rintro δ μ' ⟨rfl, rest, shs, o, hr, hlen, hg, hg2, rfl⟩
    walk_at "js"
    refine .f ?_
    refine x_addL (by rw [List.length_map]; show _ + 1 ≤ _; omega) (.f ?_)
    have e : shs.map Sh.d ++ [B.d] = (shs ++ [B]).map Sh.d := by simp
    rw [e]
    walk_at "js"
    refine loop_inv (fun rs δ μ'' => μ'' = μ' ∧ ∃ (rest : List Sh) (o : Option D), rs = rest.map Sh.d ∧ (∀ x ∈ rest, Good x) ∧ δ = [some (.rol (ns.map D.int)), some (.ref s), some A.d, some B.d, some (.lst (shs.map Sh.d)), o]) (fun _ _ _ _ => trivial) ?_ ?_ _ _ _ ⟨rfl, shs ++ [B], o, rfl, ?_, rfl⟩
    · rintro x rs δ μ'' ⟨rfl, rest, o, hr, hg, rfl⟩ QN hN
      cases rest with
      | nil => cases hr
      | cons x rest =>
        cases hr
        have gx := hg x (List.mem_cons_self ..)
        walk_at "js"
        refine ⟨x, rfl, gx.h, gx.z, .of ?_⟩
        walk_at "js"
        refine w_false ?_
        walk_at "js"
        exact hN _ _ ⟨rfl, rest, _, rfl, fun y hy => hg y (List.mem_cons_of_mem _ hy), rfl⟩
    · rintro δ μ'' ⟨rfl, rest, o, hr, hg, rfl⟩
      walk_at "js"
      exact .of (q _)
    · intro y hy
      rcases List.mem_append.mp hy with h | h
      · exact hg2 y h
      · rw [List.mem_singleton.mp h]; exact gB
  · intro x hx
    simp only [List.mem_cons, List.not_mem_nil, or_false] at hx
    rcases hx with rfl | rfl
    · exact gA
    · exact gB
  · intro x hx
    simp only [List.mem_cons, List.not_mem_nil, or_false] at hx
    rcases hx with rfl | rfl | rfl
    · exact gA
    · exact gB
    · exact gA

/-! ### the row: its defs, scopes, the facts of its top (printed by gen.py) -/
def top (i : Nat) : Stmt := PySem.Challenge.pw_keptjoined_k16_shapes_judged.main.body.getD i (.Pass ⟨0, 0, 0, 0⟩)
abbrev s_is_balanced : Stmt := top 1
abbrev s_balanced_height : Stmt := top 2
abbrev s_shape_keys : Stmt := top 3
abbrev s_collect_keys : Stmt := top 4
abbrev s_shape_height : Stmt := top 5
abbrev s_l_store : Stmt := top 7
abbrev s_l_take : Stmt := top 8
abbrev s_l_between : Stmt := top 9
abbrev s_l_is_integer : Stmt := top 10
abbrev s_l_same : Stmt := top 11
abbrev s_l_name : Stmt := top 12
abbrev s_l_key : Stmt := top 13
abbrev s_l_balanced : Stmt := top 14
abbrev s_l_least_shape : Stmt := top 15
abbrev s_l_chain : Stmt := top 16
abbrev s_l_shape : Stmt := top 17
abbrev s_l_bent_shape : Stmt := top 18
abbrev s_l_measured : Stmt := top 19
abbrev s_l_even : Stmt := top 20
abbrev s_l_plain_keys : Stmt := top 21
abbrev s_l_spine : Stmt := top 22
abbrev s_l_any_shape : Stmt := top 23
abbrev s_l_judged : Stmt := top 24
abbrev s_law : Stmt := top 25
abbrev FnP (K : PySem.W.Frag) (x : Str) (st : Stmt) (f : Addr) (fd : FuncData) : Prop := FunD K x x (defArgs st) (defBody st) (defScope st) [] [] f fd
structure Txt (K : PySem.W.Frag) (mg : Str → Option Value) (fa : Nat → Addr) (fd : Nat → FuncData) : Prop where
  F_is_balanced : FnP K "is_balanced" s_is_balanced (fa 0) (fd 0)
  g_is_balanced : mg "is_balanced" = some (.ref (fa 0))
  F_balanced_height : FnP K "balanced_height" s_balanced_height (fa 1) (fd 1)
  g_balanced_height : mg "balanced_height" = some (.ref (fa 1))
  F_shape_keys : FnP K "shape_keys" s_shape_keys (fa 2) (fd 2)
  g_shape_keys : mg "shape_keys" = some (.ref (fa 2))
  F_collect_keys : FnP K "collect_keys" s_collect_keys (fa 3) (fd 3)
  g_collect_keys : mg "collect_keys" = some (.ref (fa 3))
  F_shape_height : FnP K "shape_height" s_shape_height (fa 4) (fd 4)
  g_shape_height : mg "shape_height" = some (.ref (fa 4))
  F_l_store : FnP K "_law_store" s_l_store (fa 5) (fd 5)
  g_l_store : mg "_law_store" = some (.ref (fa 5))
  F_l_take : FnP K "_law_take" s_l_take (fa 6) (fd 6)
  g_l_take : mg "_law_take" = some (.ref (fa 6))
  F_l_between : FnP K "_law_between" s_l_between (fa 7) (fd 7)
  g_l_between : mg "_law_between" = some (.ref (fa 7))
  F_l_is_integer : FnP K "_law_is_integer" s_l_is_integer (fa 8) (fd 8)
  g_l_is_integer : mg "_law_is_integer" = some (.ref (fa 8))
  F_l_same : FnP K "_law_same" s_l_same (fa 9) (fd 9)
  g_l_same : mg "_law_same" = some (.ref (fa 9))
  F_l_name : FnP K "_law_name" s_l_name (fa 10) (fd 10)
  g_l_name : mg "_law_name" = some (.ref (fa 10))
  F_l_key : FnP K "_law_key" s_l_key (fa 11) (fd 11)
  g_l_key : mg "_law_key" = some (.ref (fa 11))
  F_l_balanced : FnP K "_law_balanced" s_l_balanced (fa 12) (fd 12)
  g_l_balanced : mg "_law_balanced" = some (.ref (fa 12))
  F_l_least_shape : FnP K "_law_least_shape" s_l_least_shape (fa 13) (fd 13)
  g_l_least_shape : mg "_law_least_shape" = some (.ref (fa 13))
  F_l_chain : FnP K "_law_chain" s_l_chain (fa 14) (fd 14)
  g_l_chain : mg "_law_chain" = some (.ref (fa 14))
  F_l_shape : FnP K "_law_shape" s_l_shape (fa 15) (fd 15)
  g_l_shape : mg "_law_shape" = some (.ref (fa 15))
  F_l_bent_shape : FnP K "_law_bent_shape" s_l_bent_shape (fa 16) (fd 16)
  g_l_bent_shape : mg "_law_bent_shape" = some (.ref (fa 16))
  F_l_measured : FnP K "_law_measured" s_l_measured (fa 17) (fd 17)
  g_l_measured : mg "_law_measured" = some (.ref (fa 17))
  F_l_even : FnP K "_law_even" s_l_even (fa 18) (fd 18)
  g_l_even : mg "_law_even" = some (.ref (fa 18))
  F_l_plain_keys : FnP K "_law_plain_keys" s_l_plain_keys (fa 19) (fd 19)
  g_l_plain_keys : mg "_law_plain_keys" = some (.ref (fa 19))
  F_l_spine : FnP K "_law_spine" s_l_spine (fa 20) (fd 20)
  g_l_spine : mg "_law_spine" = some (.ref (fa 20))
  F_l_any_shape : FnP K "_law_any_shape" s_l_any_shape (fa 21) (fd 21)
  g_l_any_shape : mg "_law_any_shape" = some (.ref (fa 21))
  F_l_judged : FnP K "_law_judged" s_l_judged (fa 22) (fd 22)
  g_l_judged : mg "_law_judged" = some (.ref (fa 22))
  F_law : FnP K "law" s_law (fa 23) (fd 23)
  g_law : mg "law" = some (.ref (fa 23))
  b_abs : mg "abs" = none
  b_bool : mg "bool" = none
  b_dict : mg "dict" = none
  b_int : mg "int" = none
  b_isinstance : mg "isinstance" = none
  b_len : mg "len" = none
  b_list : mg "list" = none
  b_max : mg "max" = none
  b_range : mg "range" = none
  b_str : mg "str" = none
  b_tuple : mg "tuple" = none
section
variable {P : Program} {w : World} {K : PySem.W.Frag} {mg : Str → Option Value} {base : Heap} {fa : Nat → Addr} {fd : Nat → FuncData}
theorem Txt.bi_is_balanced (T : Txt K mg fa fd) : Binds K (fd 0) ["shape"] [] := T.F_is_balanced.bindsN fun _ _ _ _ _ _ us hl => match us, hl with | [_], _ => rfl
theorem Txt.bi_balanced_height (T : Txt K mg fa fd) : Binds K (fd 1) ["shape"] [] := T.F_balanced_height.bindsN fun _ _ _ _ _ _ us hl => match us, hl with | [_], _ => rfl
theorem Txt.bi_shape_keys (T : Txt K mg fa fd) : Binds K (fd 2) ["shape"] [] := T.F_shape_keys.bindsN fun _ _ _ _ _ _ us hl => match us, hl with | [_], _ => rfl
theorem Txt.bi_collect_keys (T : Txt K mg fa fd) : Binds K (fd 3) ["shape", "keys"] [] := T.F_collect_keys.bindsN fun _ _ _ _ _ _ us hl => match us, hl with | [_, _], _ => rfl
theorem Txt.bi_shape_height (T : Txt K mg fa fd) : Binds K (fd 4) ["shape"] [] := T.F_shape_height.bindsN fun _ _ _ _ _ _ us hl => match us, hl with | [_], _ => rfl
theorem Txt.bi_l_store (T : Txt K mg fa fd) : Binds K (fd 5) ["_law_script"] [] := T.F_l_store.bindsN fun _ _ _ _ _ _ us hl => match us, hl with | [_], _ => rfl
theorem Txt.bi_l_take (T : Txt K mg fa fd) : Binds K (fd 6) ["_law_store_here", "_law_many"] [] := T.F_l_take.bindsN fun _ _ _ _ _ _ us hl => match us, hl with | [_, _], _ => rfl
theorem Txt.bi_l_between (T : Txt K mg fa fd) : Binds K (fd 7) ["_law_store_here", "_law_least", "_law_most"] [] := T.F_l_between.bindsN fun _ _ _ _ _ _ us hl => match us, hl with | [_, _, _], _ => rfl
theorem Txt.bi_l_is_integer (T : Txt K mg fa fd) : Binds K (fd 8) ["_law_value"] [] := T.F_l_is_integer.bindsN fun _ _ _ _ _ _ us hl => match us, hl with | [_], _ => rfl
theorem Txt.bi_l_same (T : Txt K mg fa fd) : Binds K (fd 9) ["_law_one", "_law_two"] [] := T.F_l_same.bindsN fun _ _ _ _ _ _ us hl => match us, hl with | [_, _], _ => rfl
theorem Txt.bi_l_name (T : Txt K mg fa fd) : Binds K (fd 10) ["_law_store_here"] [] := T.F_l_name.bindsN fun _ _ _ _ _ _ us hl => match us, hl with | [_], _ => rfl
theorem Txt.bi_l_key (T : Txt K mg fa fd) : Binds K (fd 11) ["_law_store_here", "_law_number"] [] := T.F_l_key.bindsN fun _ _ _ _ _ _ us hl => match us, hl with | [_, _], _ => rfl
theorem Txt.bi_l_balanced (T : Txt K mg fa fd) : Binds K (fd 12) ["_law_store_here", "_law_height", "_law_made"] [] := T.F_l_balanced.bindsN fun _ _ _ _ _ _ us hl => match us, hl with | [_, _, _], _ => rfl
theorem Txt.bi_l_least_shape (T : Txt K mg fa fd) : Binds K (fd 13) ["_law_height", "_law_lean"] [] := T.F_l_least_shape.bindsN fun _ _ _ _ _ _ us hl => match us, hl with | [_, _], _ => rfl
theorem Txt.bi_l_chain (T : Txt K mg fa fd) : Binds K (fd 14) ["_law_store_here", "_law_height"] [] := T.F_l_chain.bindsN fun _ _ _ _ _ _ us hl => match us, hl with | [_, _], _ => rfl
theorem Txt.bi_l_shape (T : Txt K mg fa fd) : Binds K (fd 15) ["_law_store_here"] [] := T.F_l_shape.bindsN fun _ _ _ _ _ _ us hl => match us, hl with | [_], _ => rfl
theorem Txt.bi_l_bent_shape (T : Txt K mg fa fd) : Binds K (fd 16) ["_law_store_here", "_law_shape_here"] [] := T.F_l_bent_shape.bindsN fun _ _ _ _ _ _ us hl => match us, hl with | [_, _], _ => rfl
theorem Txt.bi_l_measured (T : Txt K mg fa fd) : Binds K (fd 17) ["_law_shape_here"] [] := T.F_l_measured.bindsN fun _ _ _ _ _ _ us hl => match us, hl with | [_], _ => rfl
theorem Txt.bi_l_even (T : Txt K mg fa fd) : Binds K (fd 18) ["_law_keys"] [] := T.F_l_even.bindsN fun _ _ _ _ _ _ us hl => match us, hl with | [_], _ => rfl
theorem Txt.bi_l_plain_keys (T : Txt K mg fa fd) : Binds K (fd 19) ["_law_store_here", "_law_many"] [] := T.F_l_plain_keys.bindsN fun _ _ _ _ _ _ us hl => match us, hl with | [_, _], _ => rfl
theorem Txt.bi_l_spine (T : Txt K mg fa fd) : Binds K (fd 20) ["_law_store_here"] [] := T.F_l_spine.bindsN fun _ _ _ _ _ _ us hl => match us, hl with | [_], _ => rfl
theorem Txt.bi_l_any_shape (T : Txt K mg fa fd) : Binds K (fd 21) ["_law_store_here"] [] := T.F_l_any_shape.bindsN fun _ _ _ _ _ _ us hl => match us, hl with | [_], _ => rfl
theorem Txt.bi_l_judged (T : Txt K mg fa fd) : Binds K (fd 22) ["_law_shape_here"] [] := T.F_l_judged.bindsN fun _ _ _ _ _ _ us hl => match us, hl with | [_], _ => rfl
theorem Txt.bi_law (T : Txt K mg fa fd) : Binds K (fd 23) ["_law_script"] [] := T.F_law.bindsN fun _ _ _ _ _ _ us hl => match us, hl with | [_], _ => rfl
theorem sc_balanced_height : FnScope ["shape", "left_height", "right_height"] ["shape"] (defScope s_balanced_height) := ⟨rfl, rfl, rfl, by decide +kernel, rfl, by decide +kernel, by decide +kernel⟩
theorem body_balanced_height (T : Txt K mg fa fd) {k : Nat} {sp : Sp2} (hk : 0 ≤ k) (ih : FnOk P w K mg base CX0 k (fa 1) (fd 1) ["shape"] (lowSp K sp)) (cdv : Value) (A : Around) (outer : List Env) (s : Shared) (H : Hp) (E : XK) (hr : Room k (A.deeper (envOfC "balanced_height" (defScope s_balanced_height) s.heap.objs.size (fa 1) cdv))) :
    B2 (cxOf CX0 P w K mg base ["shape", "left_height", "right_height"] "balanced_height" (defScope s_balanced_height) (fa 1) cdv A outer s H E).nox Z0 (defBody s_balanced_height) (t_balanced_height  sp) := by
  have hu := hu_of hr
  have nd := sc_balanced_height.nd
  exact jb (js_if (jtcmp (oeq hr.units) (jcallF clen (by rfl) T.b_len bb_len (ja (jv 0) (ja0))) (jint) (nomark _))
    (jb1 (js_ret (jint)))
    (jb0))
    (jb (js_set (i := 1) nd rfl (by first | exact Or.inl rfl | exact Or.inr rfl) (jcall ih hr (by rfl) T.g_balanced_height T.F_balanced_height.kp T.bi_balanced_height .nil (fun _ => .nil) pass0 (fun _ _ _ _ => ZE.none) (ja (jix (oix hu) (jv 0) (jint) (fun _ _ => rfl)) (ja0))))
    (jb (js_if (jtcmp olt (jv 1) (jint) (nomark _))
    (jb1 (js_ret (jun oneg (jint))))
    (jb0))
    (jb (js_set (i := 2) nd rfl (by first | exact Or.inl rfl | exact Or.inr rfl) (jcall ih hr (by rfl) T.g_balanced_height T.F_balanced_height.kp T.bi_balanced_height .nil (fun _ => .nil) pass0 (fun _ _ _ _ => ZE.none) (ja (jix (oix hu) (jv 0) (jint) (fun _ _ => rfl)) (ja0))))
    (jb (js_if (PW.pt (jwor (jtcmp olt (jv 2) (jint) (nomark _)) (pw_or1 (jtcmp ogt (jcallF cabs (by rfl) T.b_abs bb_abs (ja (jop osub (jv 1) (jv 2)) (ja0))) (jint) (nomark _)))))
    (jb1 (js_ret (jun oneg (jint))))
    (jb0))
    (jb1 (js_ret (jop oadd (jcallF (cmax rfl) (by rfl) T.b_max bb_max (ja (jv 1) (ja (jv 2) (ja0)))) (jint))))))))
theorem ok_balanced_height (T : Txt K mg fa fd) : FnOk P w K mg base CX0 63 (fa 1) (fd 1) ["shape"] (lowSp K sp_balanced_height) := by
  have step : ∀ n, FnOk P w K mg base CX0 (n + 1) (fa 1) (fd 1) ["shape"] (lowSp K (spn_balanced_height n)) := by
    intro n
    induction n with
    | zero => exact fnok (k := 0) (t := t_balanced_height  (fun _ _ _ _ => False)) T.F_balanced_height sc_balanced_height (len_balanced_height 0) (body_balanced_height T (by decide) never) pure_balanced_height_0
    | succ n ih =>
      have e : n + 1 + 1 = (n + 1) + 1 := by omega
      rw [e]
      exact fnok (k := n + 1) (t := t_balanced_height  (spn_balanced_height n)) T.F_balanced_height sc_balanced_height (len_balanced_height (n + 1)) (body_balanced_height T (by omega) ih) (pure_balanced_height_s n)
  exact (step 62).mono (by decide)
theorem sc_is_balanced : FnScope ["shape"] ["shape"] (defScope s_is_balanced) := ⟨rfl, rfl, rfl, by decide +kernel, rfl, by decide +kernel, by decide +kernel⟩
theorem ok_is_balanced (T : Txt K mg fa fd) : FnOk P w K mg base CX0 64 (fa 0) (fd 0) ["shape"] (lowSp K sp_is_balanced) := by
  refine fnok (t := t_is_balanced sp_balanced_height) T.F_is_balanced sc_is_balanced len_is_balanced (fun cdv A outer s H E hr => ?_) pure_is_balanced
  have hu := hu_of hr
  have nd := sc_is_balanced.nd
  exact jb1 (js_ret (jcmp oge (jcall ((ok_balanced_height T).mono (by decide)) hr (by rfl) T.g_balanced_height T.F_balanced_height.kp T.bi_balanced_height .nil (fun _ => .nil) pass0 (fun _ _ _ _ => ZE.none) (ja (jv 0) (ja0))) (jint) (nomark _)))
theorem sc_collect_keys : FnScope ["shape", "keys", "left", "key", "right"] ["shape", "keys"] (defScope s_collect_keys) := ⟨rfl, rfl, rfl, by decide +kernel, rfl, by decide +kernel, by decide +kernel⟩
theorem body_collect_keys (T : Txt K mg fa fd) {k : Nat} {sp : Sp2} (hk : 0 ≤ k) (ih : FnOk P w K mg base CX0 k (fa 3) (fd 3) ["shape", "keys"] (lowSp K sp)) (cdv : Value) (A : Around) (outer : List Env) (s : Shared) (H : Hp) (E : XK) (hr : Room k (A.deeper (envOfC "collect_keys" (defScope s_collect_keys) s.heap.objs.size (fa 3) cdv))) :
    B2 (cxOf CX0 P w K mg base ["shape", "keys", "left", "key", "right"] "collect_keys" (defScope s_collect_keys) (fa 3) cdv A outer s H E).nox Z0 (defBody s_collect_keys) (t_collect_keys  sp) := by
  have hu := hu_of hr
  have nd := sc_collect_keys.nd
  exact jb (js_if (jtcmp (oeq hr.units) (jcallF clen (by rfl) T.b_len bb_len (ja (jv 0) (ja0))) (jint) (nomark _))
    (jb1 (js_retN))
    (jb0))
    (jb (js_asg (jv 0) (kgtup rfl (kgs (kg (i := 2) nd rfl (by first | exact Or.inl rfl | exact Or.inr rfl)) (kgs (kg (i := 3) nd rfl (by first | exact Or.inl rfl | exact Or.inr rfl)) (kgs (kg (i := 4) nd rfl (by first | exact Or.inl rfl | exact Or.inr rfl)) (kg0))))))
    (jb (js_expr (jcall ih hr (by rfl) T.g_collect_keys T.F_collect_keys.kp T.bi_collect_keys .nil (fun _ => .nil) pass0 (fun _ _ _ _ => ZE.none) (ja (jv 2) (ja (jv 1) (ja0)))))
    (jb (js_expr (jbm PySem.F.plainAttrs_list PySem.F.slot_list_append PySem.F.type_list_append mappend (jv 1) (ja (jv 3) (ja0))))
    (jb1 (js_expr (jcall ih hr (by rfl) T.g_collect_keys T.F_collect_keys.kp T.bi_collect_keys .nil (fun _ => .nil) pass0 (fun _ _ _ _ => ZE.none) (ja (jv 4) (ja (jv 1) (ja0)))))))))
theorem ok_collect_keys (T : Txt K mg fa fd) : FnOk P w K mg base CX0 63 (fa 3) (fd 3) ["shape", "keys"] (lowSp K sp_collect_keys) := by
  have step : ∀ n, FnOk P w K mg base CX0 (n + 1) (fa 3) (fd 3) ["shape", "keys"] (lowSp K (spn_collect_keys n)) := by
    intro n
    induction n with
    | zero => exact fnok (k := 0) (t := t_collect_keys  (fun _ _ _ _ => False)) T.F_collect_keys sc_collect_keys (len_collect_keys 0) (body_collect_keys T (by decide) never) pure_collect_keys_0
    | succ n ih =>
      have e : n + 1 + 1 = (n + 1) + 1 := by omega
      rw [e]
      exact fnok (k := n + 1) (t := t_collect_keys  (spn_collect_keys n)) T.F_collect_keys sc_collect_keys (len_collect_keys (n + 1)) (body_collect_keys T (by omega) ih) (pure_collect_keys_s n)
  exact (step 62).mono (by decide)
theorem sc_shape_keys : FnScope ["shape", "keys"] ["shape"] (defScope s_shape_keys) := ⟨rfl, rfl, rfl, by decide +kernel, rfl, by decide +kernel, by decide +kernel⟩
theorem ok_shape_keys (T : Txt K mg fa fd) : FnOk P w K mg base CX0 64 (fa 2) (fd 2) ["shape"] (lowSp K sp_shape_keys) := by
  refine fnok (t := t_shape_keys sp_collect_keys) T.F_shape_keys sc_shape_keys len_shape_keys (fun cdv A outer s H E hr => ?_) pure_shape_keys
  have hu := hu_of hr
  have nd := sc_shape_keys.nd
  exact jb (js_set (i := 1) nd rfl (by first | exact Or.inl rfl | exact Or.inr rfl) (jlst (ja0)))
    (jb (js_expr (jcall ((ok_collect_keys T).mono (by decide)) hr (by rfl) T.g_collect_keys T.F_collect_keys.kp T.bi_collect_keys .nil (fun _ => .nil) pass0 (fun _ _ _ _ => ZE.none) (ja (jv 0) (ja (jv 1) (ja0)))))
    (jb1 (js_ret (jv 1))))
theorem sc_shape_height : FnScope ["shape"] ["shape"] (defScope s_shape_height) := ⟨rfl, rfl, rfl, by decide +kernel, rfl, by decide +kernel, by decide +kernel⟩
theorem body_shape_height (T : Txt K mg fa fd) {k : Nat} {sp : Sp2} (hk : 0 ≤ k) (ih : FnOk P w K mg base CX0 k (fa 4) (fd 4) ["shape"] (lowSp K sp)) (cdv : Value) (A : Around) (outer : List Env) (s : Shared) (H : Hp) (E : XK) (hr : Room k (A.deeper (envOfC "shape_height" (defScope s_shape_height) s.heap.objs.size (fa 4) cdv))) :
    B2 (cxOf CX0 P w K mg base ["shape"] "shape_height" (defScope s_shape_height) (fa 4) cdv A outer s H E).nox Z0 (defBody s_shape_height) (t_shape_height  sp) := by
  have hu := hu_of hr
  have nd := sc_shape_height.nd
  exact jb (js_if (jtcmp (oeq hr.units) (jcallF clen (by rfl) T.b_len bb_len (ja (jv 0) (ja0))) (jint) (nomark _))
    (jb1 (js_ret (jint)))
    (jb0))
    (jb1 (js_ret (jop oadd (jcallF (cmax rfl) (by rfl) T.b_max bb_max (ja (jcall ih hr (by rfl) T.g_shape_height T.F_shape_height.kp T.bi_shape_height .nil (fun _ => .nil) pass0 (fun _ _ _ _ => ZE.none) (ja (jix (oix hu) (jv 0) (jint) (fun _ _ => rfl)) (ja0))) (ja (jcall ih hr (by rfl) T.g_shape_height T.F_shape_height.kp T.bi_shape_height .nil (fun _ => .nil) pass0 (fun _ _ _ _ => ZE.none) (ja (jix (oix hu) (jv 0) (jint) (fun _ _ => rfl)) (ja0))) (ja0)))) (jint))))
theorem ok_shape_height (T : Txt K mg fa fd) : FnOk P w K mg base CX0 63 (fa 4) (fd 4) ["shape"] (lowSp K sp_shape_height) := by
  have step : ∀ n, FnOk P w K mg base CX0 (n + 1) (fa 4) (fd 4) ["shape"] (lowSp K (spn_shape_height n)) := by
    intro n
    induction n with
    | zero => exact fnok (k := 0) (t := t_shape_height  (fun _ _ _ _ => False)) T.F_shape_height sc_shape_height (len_shape_height 0) (body_shape_height T (by decide) never) pure_shape_height_0
    | succ n ih =>
      have e : n + 1 + 1 = (n + 1) + 1 := by omega
      rw [e]
      exact fnok (k := n + 1) (t := t_shape_height  (spn_shape_height n)) T.F_shape_height sc_shape_height (len_shape_height (n + 1)) (body_shape_height T (by omega) ih) (pure_shape_height_s n)
  exact (step 62).mono (by decide)
theorem sc_l_store : FnScope ["_law_script", "_law_cells", "_law_state", "_law_cell"] ["_law_script"] (defScope s_l_store) := ⟨rfl, rfl, rfl, by decide +kernel, rfl, by decide +kernel, by decide +kernel⟩
theorem ok_l_store (T : Txt K mg fa fd) : FnOk P w K mg base CX0 1 (fa 5) (fd 5) ["_law_script"] (lowSp K sp_l_store) := by
  refine fnok (t := t_l_store ) T.F_l_store sc_l_store len_l_store (fun cdv A outer s H E hr => ?_) pure_l_store
  have hu := hu_of hr
  have nd := sc_l_store.nd
  exact jb (js_set (i := 1) nd rfl (by first | exact Or.inl rfl | exact Or.inr rfl) (jcallT (clist rfl) (by rfl) T.b_list bb_list (ja (jv 0) (ja0))))
    (jb (js_set (i := 2) nd rfl (by first | exact Or.inl rfl | exact Or.inr rfl) (jop oadd (jint) (jcallF clen (by rfl) T.b_len bb_len (ja (jv 1) (ja0)))))
    (jb (js_for PassesOwn.never rfl (ji_list (jv 1)) (kg (i := 3) nd rfl (by first | exact Or.inl rfl | exact Or.inr rfl))
    (jb1 (js_set (i := 2) nd rfl (by first | exact Or.inl rfl | exact Or.inr rfl) (jop omod (jop oadd (jop oadd (jop omul (jv 2) (jint)) (jop omod (jcallT cint (by rfl) T.b_int bb_int (ja (jv 3) (ja0))) (jint))) (jint)) (jint)))))
    (jb1 (js_ret (jlst (ja (jv 1) (ja (jint) (ja (jint) (ja (jv 2) (ja (jint) (ja0)))))))))))
theorem sc_l_take : FnScope ["_law_store_here", "_law_many", "_law_digits", "_law_tick", "_law_cells", "_law_place", "_law_cell", "_law_mixed"] ["_law_store_here", "_law_many"] (defScope s_l_take) := ⟨rfl, rfl, rfl, by decide +kernel, rfl, by decide +kernel, by decide +kernel⟩
theorem ok_l_take (T : Txt K mg fa fd) : FnOk P w K mg base CX0 1 (fa 6) (fd 6) ["_law_store_here", "_law_many"] (lowSp K sp_l_take) := by
  refine fnok (t := t_l_take ) T.F_l_take sc_l_take len_l_take (fun cdv A outer s H E hr => ?_) pure_l_take
  have hu := hu_of hr
  have nd := sc_l_take.nd
  exact jb (js_if (jtcmp olt (jv 1) (jint) (nomark _))
    (jb1 (js_ret (jint)))
    (jb0))
    (jb (js_set (i := 2) nd rfl (by first | exact Or.inl rfl | exact Or.inr rfl) (jcallT cint (by rfl) T.b_int bb_int (ja (jix (oix hu) (jv 0) (jint) (fun _ _ => rfl)) (ja0))))
    (jb (js_if (jtcmp ogt (jv 2) (jint) (nomark _))
    (jb (js_asg (jop ofdiv (jv 2) (jv 1)) (kgsub hu (jv 0) (jint)))
    (jb1 (js_ret (jop omod (jv 2) (jv 1)))))
    (jb0))
    (jb (js_asg (jop oadd (jcallT cint (by rfl) T.b_int bb_int (ja (jix (oix hu) (jv 0) (jint) (fun _ _ => rfl)) (ja0))) (jint)) (kgsub hu (jv 0) (jint)))
    (jb (js_set (i := 3) nd rfl (by first | exact Or.inl rfl | exact Or.inr rfl) (jcallT cint (by rfl) T.b_int bb_int (ja (jix (oix hu) (jv 0) (jint) (fun _ _ => rfl)) (ja0))))
    (jb (js_set (i := 4) nd rfl (by first | exact Or.inl rfl | exact Or.inr rfl) (jix (oix hu) (jv 0) (jint) (fun _ _ => rfl)))
    (jb (js_set (i := 5) nd rfl (by first | exact Or.inl rfl | exact Or.inr rfl) (jcallT cint (by rfl) T.b_int bb_int (ja (jix (oix hu) (jv 0) (jint) (fun _ _ => rfl)) (ja0))))
    (jb (js_if (jtcmp olt (jv 5) (jcallF clen (by rfl) T.b_len bb_len (ja (jv 4) (ja0))) (nomark _))
    (jb (js_set (i := 6) nd rfl (by first | exact Or.inl rfl | exact Or.inr rfl) (jcallT cint (by rfl) T.b_int bb_int (ja (jix (oix hu) (jv 4) (jv 5) (fun _ _ => rfl)) (ja0))))
    (jb (js_asg (jop oadd (jv 5) (jint)) (kgsub hu (jv 0) (jint)))
    (jb (js_if (jtcmp oge (jv 6) (jop opow (jint) (jint)) (nomark _))
    (jb (js_asg (jop ofdiv (jv 6) (jv 1)) (kgsub hu (jv 0) (jint)))
    (jb1 (js_ret (jop omod (jv 6) (jv 1)))))
    (jb0))
    (jb1 (js_set (i := 7) nd rfl (by first | exact Or.inl rfl | exact Or.inr rfl) (jop omod (jop oadd (jop oadd (jop omul (jv 6) (jint)) (jop omul (jv 3) (jint))) (jint)) (jint)))))))
    (jb (js_set (i := 7) nd rfl (by first | exact Or.inl rfl | exact Or.inr rfl) (jop omod (jop oadd (jop oadd (jop omul (jcallT cint (by rfl) T.b_int bb_int (ja (jix (oix hu) (jv 0) (jint) (fun _ _ => rfl)) (ja0))) (jint)) (jop omul (jv 3) (jint))) (jint)) (jint)))
    (jb1 (js_asg (jv 7) (kgsub hu (jv 0) (jint))))))
    (jb1 (js_ret (jop omod (jop omod (jop oadd (jop omul (jv 7) (jv 7)) (jop ofdiv (jv 7) (jint))) (jint)) (jv 1)))))))))))
theorem sc_l_between : FnScope ["_law_store_here", "_law_least", "_law_most", "_law_edge"] ["_law_store_here", "_law_least", "_law_most"] (defScope s_l_between) := ⟨rfl, rfl, rfl, by decide +kernel, rfl, by decide +kernel, by decide +kernel⟩
theorem ok_l_between (T : Txt K mg fa fd) : FnOk P w K mg base CX0 2 (fa 7) (fd 7) ["_law_store_here", "_law_least", "_law_most"] (lowSp K sp_l_between) := by
  refine fnok (t := t_l_between sp_l_take) T.F_l_between sc_l_between len_l_between (fun cdv A outer s H E hr => ?_) pure_l_between
  have hu := hu_of hr
  have nd := sc_l_between.nd
  exact jb (js_if (jtcmp ole (jv 2) (jv 1) (nomark _))
    (jb1 (js_ret (jv 1)))
    (jb0))
    (jb (js_set (i := 3) nd rfl (by first | exact Or.inl rfl | exact Or.inr rfl) (jcall ((ok_l_take T).mono (by decide)) hr (by rfl) T.g_l_take T.F_l_take.kp T.bi_l_take .nil (fun _ => .nil) pass0 (fun _ _ _ _ => ZE.none) (ja (jv 0) (ja (jint) (ja0)))))
    (jb (js_if (jtcmp (oeq hr.units) (jv 3) (jint) (nomark _))
    (jb1 (js_ret (jv 1)))
    (jb0))
    (jb (js_if (jtcmp (oeq hr.units) (jv 3) (jint) (nomark _))
    (jb1 (js_ret (jv 2)))
    (jb0))
    (jb (js_if (jtcmp (oeq hr.units) (jv 3) (jint) (nomark _))
    (jb1 (js_ret (jop oadd (jv 1) (jint))))
    (jb0))
    (jb1 (js_ret (jop oadd (jv 1) (jcall ((ok_l_take T).mono (by decide)) hr (by rfl) T.g_l_take T.F_l_take.kp T.bi_l_take .nil (fun _ => .nil) pass0 (fun _ _ _ _ => ZE.none) (ja (jv 0) (ja (jop oadd (jop osub (jv 2) (jv 1)) (jint)) (ja0)))))))))))
theorem sc_l_is_integer : FnScope ["_law_value"] ["_law_value"] (defScope s_l_is_integer) := ⟨rfl, rfl, rfl, by decide +kernel, rfl, by decide +kernel, by decide +kernel⟩
theorem ok_l_is_integer (T : Txt K mg fa fd) : FnOk P w K mg base CX0 1 (fa 8) (fd 8) ["_law_value"] (lowSp K sp_l_is_integer) := by
  refine fnok (t := t_l_is_integer ) T.F_l_is_integer sc_l_is_integer len_l_is_integer (fun cdv A outer s H E hr => ?_) pure_l_is_integer
  have hu := hu_of hr
  have nd := sc_l_is_integer.nd
  exact jb1 (js_ret (jand (jcallF (cisi .int (by decide)) (by rfl) T.b_isinstance bb_isinstance (ja (jv 0) (ja (jbltn (by rfl) T.b_int bb_int) ja0))) (jone (jnot (jcallF (cisi .bl (by decide)) (by rfl) T.b_isinstance bb_isinstance (ja (jv 0) (ja (jbltn (by rfl) T.b_bool bb_bool) ja0)))))))
theorem sc_l_same : FnScope ["_law_one", "_law_two", "_law_lists", "_law_k", "_law_key_here"] ["_law_one", "_law_two"] (defScope s_l_same) := ⟨rfl, rfl, rfl, by decide +kernel, rfl, by decide +kernel, by decide +kernel⟩
theorem body_l_same (T : Txt K mg fa fd) {k : Nat} {sp : Sp2} (hk : 1 ≤ k) (ih : FnOk P w K mg base CX0 k (fa 9) (fd 9) ["_law_one", "_law_two"] (lowSp K sp)) (cdv : Value) (A : Around) (outer : List Env) (s : Shared) (H : Hp) (E : XK) (hr : Room k (A.deeper (envOfC "_law_same" (defScope s_l_same) s.heap.objs.size (fa 9) cdv))) :
    B2 (cxOf CX0 P w K mg base ["_law_one", "_law_two", "_law_lists", "_law_k", "_law_key_here"] "_law_same" (defScope s_l_same) (fa 9) cdv A outer s H E).nox Z0 (defBody s_l_same) (t_l_same sp_l_is_integer sp) := by
  have hu := hu_of hr
  have nd := sc_l_same.nd
  exact jb (js_if (PW.pt (jwor (jtcmp ois (jv 0) (jnon) (nomark _)) (pw_or1 (jtcmp ois (jv 1) (jnon) (nomark _)))))
    (jb1 (js_ret (jand (jcmp ois (jv 0) (jnon) (nomark _)) (jone (jcmp ois (jv 1) (jnon) (nomark _))))))
    (jb0))
    (jb (js_if (PW.pt (jwor (jtval (jcallF (cisi .bl (by decide)) (by rfl) T.b_isinstance bb_isinstance (ja (jv 0) (ja (jbltn (by rfl) T.b_bool bb_bool) ja0)))) (pw_or1 (jtval (jcallF (cisi .bl (by decide)) (by rfl) T.b_isinstance bb_isinstance (ja (jv 1) (ja (jbltn (by rfl) T.b_bool bb_bool) ja0)))))))
    (jb1 (js_ret (jand (jcallF (cisi .bl (by decide)) (by rfl) T.b_isinstance bb_isinstance (ja (jv 0) (ja (jbltn (by rfl) T.b_bool bb_bool) ja0))) (jand (jcallF (cisi .bl (by decide)) (by rfl) T.b_isinstance bb_isinstance (ja (jv 1) (ja (jbltn (by rfl) T.b_bool bb_bool) ja0))) (jone (jcmp (oeq hr.units) (jv 0) (jv 1) (nomark _)))))))
    (jb0))
    (jb (js_if (PW.pt (jwor (jtval (jcallF (cisi .int (by decide)) (by rfl) T.b_isinstance bb_isinstance (ja (jv 0) (ja (jbltn (by rfl) T.b_int bb_int) ja0)))) (pw_or1 (jtval (jcallF (cisi .int (by decide)) (by rfl) T.b_isinstance bb_isinstance (ja (jv 1) (ja (jbltn (by rfl) T.b_int bb_int) ja0)))))))
    (jb1 (js_ret (jand (jcallF (cisi .int (by decide)) (by rfl) T.b_isinstance bb_isinstance (ja (jv 0) (ja (jbltn (by rfl) T.b_int bb_int) ja0))) (jand (jcallF (cisi .int (by decide)) (by rfl) T.b_isinstance bb_isinstance (ja (jv 1) (ja (jbltn (by rfl) T.b_int bb_int) ja0))) (jone (jcmp (oeq hr.units) (jv 0) (jv 1) (nomark _)))))))
    (jb0))
    (jb (js_if (PW.pt (jwor (jtval (jcallF (cisi .str (by decide)) (by rfl) T.b_isinstance bb_isinstance (ja (jv 0) (ja (jbltn (by rfl) T.b_str bb_str) ja0)))) (pw_or1 (jtval (jcallF (cisi .str (by decide)) (by rfl) T.b_isinstance bb_isinstance (ja (jv 1) (ja (jbltn (by rfl) T.b_str bb_str) ja0)))))))
    (jb1 (js_ret (jand (jcallF (cisi .str (by decide)) (by rfl) T.b_isinstance bb_isinstance (ja (jv 0) (ja (jbltn (by rfl) T.b_str bb_str) ja0))) (jand (jcallF (cisi .str (by decide)) (by rfl) T.b_isinstance bb_isinstance (ja (jv 1) (ja (jbltn (by rfl) T.b_str bb_str) ja0))) (jone (jcmp (oeq hr.units) (jv 0) (jv 1) (nomark _)))))))
    (jb0))
    (jb (js_if (PW.pt (jwor (jtval (jcallF (cisi .dct (by decide)) (by rfl) T.b_isinstance bb_isinstance (ja (jv 0) (ja (jbltn (by rfl) T.b_dict bb_dict) ja0)))) (pw_or1 (jtval (jcallF (cisi .dct (by decide)) (by rfl) T.b_isinstance bb_isinstance (ja (jv 1) (ja (jbltn (by rfl) T.b_dict bb_dict) ja0)))))))
    (jb (js_if (PW.pt (jwor (jtnot (jtval (jcallF (cisi .dct (by decide)) (by rfl) T.b_isinstance bb_isinstance (ja (jv 0) (ja (jbltn (by rfl) T.b_dict bb_dict) ja0))))) (jwor (jtnot (jtval (jcallF (cisi .dct (by decide)) (by rfl) T.b_isinstance bb_isinstance (ja (jv 1) (ja (jbltn (by rfl) T.b_dict bb_dict) ja0))))) (pw_or1 (jtcmp (one_ hr.units) (jcallF clen (by rfl) T.b_len bb_len (ja (jv 0) (ja0))) (jcallF clen (by rfl) T.b_len bb_len (ja (jv 1) (ja0))) (nomark _))))))
    (jb1 (js_ret (jbl)))
    (jb0))
    (jb (js_for PassesOwn.never rfl (ji_list (jcallT (clist rfl) (by rfl) T.b_list bb_list (ja (jv 0) (ja0)))) (kg (i := 4) nd rfl (by first | exact Or.inl rfl | exact Or.inr rfl))
    (jb (js_if (PW.pt (jwor (jtnot (PW.pt (jwor (jtval (jcallF (cisi .str (by decide)) (by rfl) T.b_isinstance bb_isinstance (ja (jv 4) (ja (jbltn (by rfl) T.b_str bb_str) ja0)))) (pw_or1 (jtval (jcall ((ok_l_is_integer T).mono (Nat.le_trans (by decide) hk)) hr (by rfl) T.g_l_is_integer T.F_l_is_integer.kp T.bi_l_is_integer .nil (fun _ => .nil) pass0 (fun _ _ _ _ => ZE.none) (ja (jv 4) (ja0)))))))) (pw_or1 (jtcmp (onotin hu) (jv 4) (jv 1) rfl))))
    (jb1 (js_ret (jbl)))
    (jb0))
    (jb1 (js_if (jtnot (jtval (jcall ih hr (by rfl) T.g_l_same T.F_l_same.kp T.bi_l_same .nil (fun _ => .nil) pass0 (fun _ _ _ _ => ZE.none) (ja (jix (oix hu) (jv 0) (jv 4) (fun _ _ => rfl)) (ja (jix (oix hu) (jv 1) (jv 4) (fun _ _ => rfl)) (ja0))))))
    (jb1 (js_ret (jbl)))
    (jb0)))))
    (jb (js_for PassesOwn.never rfl (ji_list (jcallT (clist rfl) (by rfl) T.b_list bb_list (ja (jv 1) (ja0)))) (kg (i := 4) nd rfl (by first | exact Or.inl rfl | exact Or.inr rfl))
    (jb1 (js_if (jtnot (PW.pt (jwor (jtval (jcallF (cisi .str (by decide)) (by rfl) T.b_isinstance bb_isinstance (ja (jv 4) (ja (jbltn (by rfl) T.b_str bb_str) ja0)))) (pw_or1 (jtval (jcall ((ok_l_is_integer T).mono (Nat.le_trans (by decide) hk)) hr (by rfl) T.g_l_is_integer T.F_l_is_integer.kp T.bi_l_is_integer .nil (fun _ => .nil) pass0 (fun _ _ _ _ => ZE.none) (ja (jv 4) (ja0))))))))
    (jb1 (js_ret (jbl)))
    (jb0))))
    (jb1 (js_ret (jbl))))))
    (jb0))
    (jb (js_set (i := 2) nd rfl (by first | exact Or.inl rfl | exact Or.inr rfl) (jand (jcallF (cisi .lst (by decide)) (by rfl) T.b_isinstance bb_isinstance (ja (jv 0) (ja (jbltn (by rfl) T.b_list bb_list) ja0))) (jone (jcallF (cisi .lst (by decide)) (by rfl) T.b_isinstance bb_isinstance (ja (jv 1) (ja (jbltn (by rfl) T.b_list bb_list) ja0))))))
    (jb (js_if (PW.pt (jwand (jtnot (jtval (jv 2))) (pw_and1 (jtnot (PW.pt (jwand (jtval (jcallF (cisi .tup (by decide)) (by rfl) T.b_isinstance bb_isinstance (ja (jv 0) (ja (jbltn (by rfl) T.b_tuple bb_tuple) ja0)))) (pw_and1 (jtval (jcallF (cisi .tup (by decide)) (by rfl) T.b_isinstance bb_isinstance (ja (jv 1) (ja (jbltn (by rfl) T.b_tuple bb_tuple) ja0)))))))))))
    (jb1 (js_ret (jbl)))
    (jb0))
    (jb (js_if (jtcmp (one_ hr.units) (jcallF clen (by rfl) T.b_len bb_len (ja (jv 0) (ja0))) (jcallF clen (by rfl) T.b_len bb_len (ja (jv 1) (ja0))) (nomark _))
    (jb1 (js_ret (jbl)))
    (jb0))
    (jb (js_for PassesOwn.never rfl (ji_range1 (by rfl) T.b_range (ja (jcallF clen (by rfl) T.b_len bb_len (ja (jv 0) (ja0))) (ja0))) (kg (i := 3) nd rfl (by first | exact Or.inl rfl | exact Or.inr rfl))
    (jb1 (js_if (jtnot (jtval (jcall ih hr (by rfl) T.g_l_same T.F_l_same.kp T.bi_l_same .nil (fun _ => .nil) pass0 (fun _ _ _ _ => ZE.none) (ja (jix (oix hu) (jv 0) (jv 3) (fun _ _ => rfl)) (ja (jix (oix hu) (jv 1) (jv 3) (fun _ _ => rfl)) (ja0))))))
    (jb1 (js_ret (jbl)))
    (jb0))))
    (jb1 (js_ret (jbl)))))))))))
theorem ok_l_same (T : Txt K mg fa fd) : FnOk P w K mg base CX0 6 (fa 9) (fd 9) ["_law_one", "_law_two"] (lowSp K sp_l_same) := by
  have step : ∀ n, FnOk P w K mg base CX0 (n + 2) (fa 9) (fd 9) ["_law_one", "_law_two"] (lowSp K (spn_l_same n)) := by
    intro n
    induction n with
    | zero => exact fnok (k := 1) (t := t_l_same sp_l_is_integer (fun _ _ _ _ => False)) T.F_l_same sc_l_same (len_l_same 0) (body_l_same T (by decide) never) pure_l_same_0
    | succ n ih =>
      have e : n + 1 + 2 = (n + 2) + 1 := by omega
      rw [e]
      exact fnok (k := n + 2) (t := t_l_same sp_l_is_integer (spn_l_same n)) T.F_l_same sc_l_same (len_l_same (n + 1)) (body_l_same T (by omega) ih) (pure_l_same_s n)
  exact (step 4).mono (by decide)
theorem sc_l_name : FnScope ["_law_store_here", "_law_size", "_law_word", "_law_alike", "_law_k"] ["_law_store_here"] (defScope s_l_name) := ⟨rfl, rfl, rfl, by decide +kernel, rfl, by decide +kernel, by decide +kernel⟩
theorem ok_l_name (T : Txt K mg fa fd) : FnOk P w K mg base CX0 3 (fa 10) (fd 10) ["_law_store_here"] (lowSp K sp_l_name) := by
  refine fnok (t := t_l_name sp_l_between sp_l_take) T.F_l_name sc_l_name len_l_name (fun cdv A outer s H E hr => ?_) pure_l_name
  have hu := hu_of hr
  have nd := sc_l_name.nd
  exact jb (js_set (i := 1) nd rfl (by first | exact Or.inl rfl | exact Or.inr rfl) (jcall ((ok_l_between T).mono (by decide)) hr (by rfl) T.g_l_between T.F_l_between.kp T.bi_l_between .nil (fun _ => .nil) pass0 (fun _ _ _ _ => ZE.none) (ja (jv 0) (ja (jint) (ja (jint) (ja0))))))
    (jb (js_set (i := 2) nd rfl (by first | exact Or.inl rfl | exact Or.inr rfl) (jix (oix hu) (jstr) (jcall ((ok_l_take T).mono (by decide)) hr (by rfl) T.g_l_take T.F_l_take.kp T.bi_l_take .nil (fun _ => .nil) pass0 (fun _ _ _ _ => ZE.none) (ja (jv 0) (ja (jint) (ja0)))) (fun _ _ => rfl)))
    (jb (js_set (i := 3) nd rfl (by first | exact Or.inl rfl | exact Or.inr rfl) (jcmp (oeq hr.units) (jcall ((ok_l_take T).mono (by decide)) hr (by rfl) T.g_l_take T.F_l_take.kp T.bi_l_take .nil (fun _ => .nil) pass0 (fun _ _ _ _ => ZE.none) (ja (jv 0) (ja (jint) (ja0)))) (jint) (nomark _)))
    (jb (js_for PassesOwn.never rfl (ji_range1 (by rfl) T.b_range (ja (jop osub (jv 1) (jint)) (ja0))) (kg (i := 4) nd rfl (by first | exact Or.inl rfl | exact Or.inr rfl))
    (jb1 (js_if (jtval (jv 3))
    (jb1 (js_set (i := 2) nd rfl (by first | exact Or.inl rfl | exact Or.inr rfl) (jop oadd (jv 2) (jix (oix hu) (jv 2) (jint) (fun _ _ => rfl)))))
    (jb1 (js_set (i := 2) nd rfl (by first | exact Or.inl rfl | exact Or.inr rfl) (jop oadd (jv 2) (jix (oix hu) (jstr) (jcall ((ok_l_take T).mono (by decide)) hr (by rfl) T.g_l_take T.F_l_take.kp T.bi_l_take .nil (fun _ => .nil) pass0 (fun _ _ _ _ => ZE.none) (ja (jv 0) (ja (jint) (ja0)))) (fun _ _ => rfl))))))))
    (jb1 (js_ret (jv 2))))))
theorem sc_l_key : FnScope ["_law_store_here", "_law_number", "_law_size", "_law_at", "_law_key_here", "_law_k", "_law_word"] ["_law_store_here", "_law_number"] (defScope s_l_key) := ⟨rfl, rfl, rfl, by decide +kernel, rfl, by decide +kernel, by decide +kernel⟩
theorem ok_l_key (T : Txt K mg fa fd) : FnOk P w K mg base CX0 4 (fa 11) (fd 11) ["_law_store_here", "_law_number"] (lowSp K sp_l_key) := by
  refine fnok (t := t_l_key sp_l_between sp_l_take sp_l_name) T.F_l_key sc_l_key len_l_key (fun cdv A outer s H E hr => ?_) pure_l_key
  have hu := hu_of hr
  have nd := sc_l_key.nd
  exact jb (js_set (i := 2) nd rfl (by first | exact Or.inl rfl | exact Or.inr rfl) (jcall ((ok_l_between T).mono (by decide)) hr (by rfl) T.g_l_between T.F_l_between.kp T.bi_l_between .nil (fun _ => .nil) pass0 (fun _ _ _ _ => ZE.none) (ja (jv 0) (ja (jint) (ja (jint) (ja0))))))
    (jb (js_set (i := 3) nd rfl (by first | exact Or.inl rfl | exact Or.inr rfl) (jcall ((ok_l_take T).mono (by decide)) hr (by rfl) T.g_l_take T.F_l_take.kp T.bi_l_take .nil (fun _ => .nil) pass0 (fun _ _ _ _ => ZE.none) (ja (jv 0) (ja (jv 2) (ja0)))))
    (jb (js_set (i := 4) nd rfl (by first | exact Or.inl rfl | exact Or.inr rfl) (jlst (ja0)))
    (jb (js_for PassesOwn.never rfl (ji_range1 (by rfl) T.b_range (ja (jv 2) (ja0))) (kg (i := 5) nd rfl (by first | exact Or.inl rfl | exact Or.inr rfl))
    (jb (js_set (i := 6) nd rfl (by first | exact Or.inl rfl | exact Or.inr rfl) (jix (oix hu) (jlst (ja (jstr) (ja (jstr) (ja (jstr) (ja (jstr) (ja (jstr) (ja (jstr) (ja (jstr) (ja (jstr) (ja0)))))))))) (jcall ((ok_l_take T).mono (by decide)) hr (by rfl) T.g_l_take T.F_l_take.kp T.bi_l_take .nil (fun _ => .nil) pass0 (fun _ _ _ _ => ZE.none) (ja (jv 0) (ja (jint) (ja0)))) (fun _ _ => rfl)))
    (jb (js_if (jtcmp (oeq hr.units) (jv 5) (jv 3) (nomark _))
    (jb1 (js_set (i := 6) nd rfl (by first | exact Or.inl rfl | exact Or.inr rfl) (jcallT cstr (by rfl) T.b_str bb_str (ja (jv 1) (ja0)))))
    (jb1 (js_if (jtcmp (oeq hr.units) (jcall ((ok_l_take T).mono (by decide)) hr (by rfl) T.g_l_take T.F_l_take.kp T.bi_l_take .nil (fun _ => .nil) pass0 (fun _ _ _ _ => ZE.none) (ja (jv 0) (ja (jint) (ja0)))) (jint) (nomark _))
    (jb1 (js_set (i := 6) nd rfl (by first | exact Or.inl rfl | exact Or.inr rfl) (jcall ((ok_l_name T).mono (by decide)) hr (by rfl) T.g_l_name T.F_l_name.kp T.bi_l_name .nil (fun _ => .nil) pass0 (fun _ _ _ _ => ZE.none) (ja (jv 0) (ja0)))))
    (jb0))))
    (jb1 (js_expr (jbm PySem.F.plainAttrs_list PySem.F.slot_list_append PySem.F.type_list_append mappend (jv 4) (ja (jv 6) (ja0))))))))
    (jb1 (js_ret (jcallT ctuple (by rfl) T.b_tuple bb_tuple (ja (jv 4) (ja0))))))))
theorem sc_l_balanced : FnScope ["_law_store_here", "_law_height", "_law_made", "_law_lower", "_law_flipped", "_law_heights", "_law_left", "_law_key_here"] ["_law_store_here", "_law_height", "_law_made"] (defScope s_l_balanced) := ⟨rfl, rfl, rfl, by decide +kernel, rfl, by decide +kernel, by decide +kernel⟩
theorem body_l_balanced (T : Txt K mg fa fd) {k : Nat} {sp : Sp2} (hk : 4 ≤ k) (ih : FnOk P w K mg base CX0 k (fa 12) (fd 12) ["_law_store_here", "_law_height", "_law_made"] (lowSp K sp)) (cdv : Value) (A : Around) (outer : List Env) (s : Shared) (H : Hp) (E : XK) (hr : Room k (A.deeper (envOfC "_law_balanced" (defScope s_l_balanced) s.heap.objs.size (fa 12) cdv))) :
    B2 (cxOf CX0 P w K mg base ["_law_store_here", "_law_height", "_law_made", "_law_lower", "_law_flipped", "_law_heights", "_law_left", "_law_key_here"] "_law_balanced" (defScope s_l_balanced) (fa 12) cdv A outer s H E).nox Z0 (defBody s_l_balanced) (t_l_balanced sp_l_key sp_l_take sp) := by
  have hu := hu_of hr
  have nd := sc_l_balanced.nd
  exact jb (js_if (jtcmp ole (jv 1) (jint) (nomark _))
    (jb1 (js_ret (jtup (ja0))))
    (jb0))
    (jb (js_set (i := 3) nd rfl (by first | exact Or.inl rfl | exact Or.inr rfl) (jop osub (jop osub (jv 1) (jint)) (jcallT cint (by rfl) T.b_int bb_int (ja (jand (jcmp (oeq hr.units) (jcall ((ok_l_take T).mono (Nat.le_trans (by decide) hk)) hr (by rfl) T.g_l_take T.F_l_take.kp T.bi_l_take .nil (fun _ => .nil) pass0 (fun _ _ _ _ => ZE.none) (ja (jv 0) (ja (jint) (ja0)))) (jint) (nomark _)) (jone (jcmp ogt (jv 1) (jint) (nomark _)))) (ja0)))))
    (jb (js_set (i := 4) nd rfl (by first | exact Or.inl rfl | exact Or.inr rfl) (jcmp (oeq hr.units) (jcall ((ok_l_take T).mono (Nat.le_trans (by decide) hk)) hr (by rfl) T.g_l_take T.F_l_take.kp T.bi_l_take .nil (fun _ => .nil) pass0 (fun _ _ _ _ => ZE.none) (ja (jv 0) (ja (jint) (ja0)))) (jint) (nomark _)))
    (jb (js_set (i := 5) nd rfl (by first | exact Or.inl rfl | exact Or.inr rfl) (jlst (ja (jop osub (jv 1) (jint)) (ja (jv 3) (ja0)))))
    (jb (js_if (jtval (jv 4))
    (jb1 (js_set (i := 5) nd rfl (by first | exact Or.inl rfl | exact Or.inr rfl) (jlst (ja (jv 3) (ja (jop osub (jv 1) (jint)) (ja0))))))
    (jb0))
    (jb (js_set (i := 6) nd rfl (by first | exact Or.inl rfl | exact Or.inr rfl) (jcall ih hr (by rfl) T.g_l_balanced T.F_l_balanced.kp T.bi_l_balanced .nil (fun _ => .nil) pass0 (fun _ _ _ _ => ZE.none) (ja (jv 0) (ja (jix (oix hu) (jv 5) (jint) (fun _ _ => rfl)) (ja (jv 2) (ja0))))))
    (jb (js_set (i := 7) nd rfl (by first | exact Or.inl rfl | exact Or.inr rfl) (jcall ((ok_l_key T).mono (Nat.le_trans (by decide) hk)) hr (by rfl) T.g_l_key T.F_l_key.kp T.bi_l_key .nil (fun _ => .nil) pass0 (fun _ _ _ _ => ZE.none) (ja (jv 0) (ja (jcallF clen (by rfl) T.b_len bb_len (ja (jv 2) (ja0))) (ja0)))))
    (jb (js_expr (jbm PySem.F.plainAttrs_list PySem.F.slot_list_append PySem.F.type_list_append mappend (jv 2) (ja (jv 7) (ja0))))
    (jb1 (js_ret (jtup (ja (jv 6) (ja (jv 7) (ja (jcall ih hr (by rfl) T.g_l_balanced T.F_l_balanced.kp T.bi_l_balanced .nil (fun _ => .nil) pass0 (fun _ _ _ _ => ZE.none) (ja (jv 0) (ja (jix (oix hu) (jv 5) (jint) (fun _ _ => rfl)) (ja (jv 2) (ja0))))) (ja0))))))))))))))
theorem ok_l_balanced (T : Txt K mg fa fd) : FnOk P w K mg base CX0 12 (fa 12) (fd 12) ["_law_store_here", "_law_height", "_law_made"] (lowSp K sp_l_balanced) := by
  have step : ∀ n, FnOk P w K mg base CX0 (n + 5) (fa 12) (fd 12) ["_law_store_here", "_law_height", "_law_made"] (lowSp K (spn_l_balanced n)) := by
    intro n
    induction n with
    | zero => exact fnok (k := 4) (t := t_l_balanced sp_l_key sp_l_take (fun _ _ _ _ => False)) T.F_l_balanced sc_l_balanced (len_l_balanced 0) (body_l_balanced T (by decide) never) pure_l_balanced_0
    | succ n ih =>
      have e : n + 1 + 5 = (n + 5) + 1 := by omega
      rw [e]
      exact fnok (k := n + 5) (t := t_l_balanced sp_l_key sp_l_take (spn_l_balanced n)) T.F_l_balanced sc_l_balanced (len_l_balanced (n + 1)) (body_l_balanced T (by omega) ih) (pure_l_balanced_s n)
  exact (step 7).mono (by decide)
theorem sc_l_least_shape : FnScope ["_law_height", "_law_lean", "_law_one", "_law_two"] ["_law_height", "_law_lean"] (defScope s_l_least_shape) := ⟨rfl, rfl, rfl, by decide +kernel, rfl, by decide +kernel, by decide +kernel⟩
theorem body_l_least_shape (T : Txt K mg fa fd) {k : Nat} {sp : Sp2} (hk : 0 ≤ k) (ih : FnOk P w K mg base CX0 k (fa 13) (fd 13) ["_law_height", "_law_lean"] (lowSp K sp)) (cdv : Value) (A : Around) (outer : List Env) (s : Shared) (H : Hp) (E : XK) (hr : Room k (A.deeper (envOfC "_law_least_shape" (defScope s_l_least_shape) s.heap.objs.size (fa 13) cdv))) :
    B2 (cxOf CX0 P w K mg base ["_law_height", "_law_lean", "_law_one", "_law_two"] "_law_least_shape" (defScope s_l_least_shape) (fa 13) cdv A outer s H E).nox Z0 (defBody s_l_least_shape) (t_l_least_shape  sp) := by
  have hu := hu_of hr
  have nd := sc_l_least_shape.nd
  exact jb (js_if (jtcmp ole (jv 0) (jint) (nomark _))
    (jb1 (js_ret (jtup (ja0))))
    (jb0))
    (jb (js_set (i := 2) nd rfl (by first | exact Or.inl rfl | exact Or.inr rfl) (jcall ih hr (by rfl) T.g_l_least_shape T.F_l_least_shape.kp T.bi_l_least_shape .nil (fun _ => .nil) pass0 (fun _ _ _ _ => ZE.none) (ja (jop osub (jv 0) (jint)) (ja (jv 1) (ja0)))))
    (jb (js_set (i := 3) nd rfl (by first | exact Or.inl rfl | exact Or.inr rfl) (jcall ih hr (by rfl) T.g_l_least_shape T.F_l_least_shape.kp T.bi_l_least_shape .nil (fun _ => .nil) pass0 (fun _ _ _ _ => ZE.none) (ja (jop osub (jv 0) (jint)) (ja (jv 1) (ja0)))))
    (jb (js_if (jtval (jv 1))
    (jb1 (js_ret (jtup (ja (jv 2) (ja (jtup (ja (jstr) (ja0))) (ja (jv 3) (ja0)))))))
    (jb0))
    (jb1 (js_ret (jtup (ja (jv 3) (ja (jtup (ja (jstr) (ja0))) (ja (jv 2) (ja0))))))))))
theorem ok_l_least_shape (T : Txt K mg fa fd) : FnOk P w K mg base CX0 10 (fa 13) (fd 13) ["_law_height", "_law_lean"] (lowSp K sp_l_least_shape) := by
  have step : ∀ n, FnOk P w K mg base CX0 (n + 1) (fa 13) (fd 13) ["_law_height", "_law_lean"] (lowSp K (spn_l_least_shape n)) := by
    intro n
    induction n with
    | zero => exact fnok (k := 0) (t := t_l_least_shape  (fun _ _ _ _ => False)) T.F_l_least_shape sc_l_least_shape (len_l_least_shape 0) (body_l_least_shape T (by decide) never) pure_l_least_shape_0
    | succ n ih =>
      have e : n + 1 + 1 = (n + 1) + 1 := by omega
      rw [e]
      exact fnok (k := n + 1) (t := t_l_least_shape  (spn_l_least_shape n)) T.F_l_least_shape sc_l_least_shape (len_l_least_shape (n + 1)) (body_l_least_shape T (by omega) ih) (pure_l_least_shape_s n)
  exact (step 9).mono (by decide)
theorem sc_l_chain : FnScope ["_law_store_here", "_law_height", "_law_shape_here", "_law_k", "_law_key_here"] ["_law_store_here", "_law_height"] (defScope s_l_chain) := ⟨rfl, rfl, rfl, by decide +kernel, rfl, by decide +kernel, by decide +kernel⟩
theorem ok_l_chain (T : Txt K mg fa fd) : FnOk P w K mg base CX0 5 (fa 14) (fd 14) ["_law_store_here", "_law_height"] (lowSp K sp_l_chain) := by
  refine fnok (t := t_l_chain sp_l_key sp_l_take) T.F_l_chain sc_l_chain len_l_chain (fun cdv A outer s H E hr => ?_) pure_l_chain
  have hu := hu_of hr
  have nd := sc_l_chain.nd
  exact jb (js_set (i := 2) nd rfl (by first | exact Or.inl rfl | exact Or.inr rfl) (jtup (ja0)))
    (jb (js_for PassesOwn.never rfl (ji_range1 (by rfl) T.b_range (ja (jv 1) (ja0))) (kg (i := 3) nd rfl (by first | exact Or.inl rfl | exact Or.inr rfl))
    (jb (js_set (i := 4) nd rfl (by first | exact Or.inl rfl | exact Or.inr rfl) (jcall ((ok_l_key T).mono (by decide)) hr (by rfl) T.g_l_key T.F_l_key.kp T.bi_l_key .nil (fun _ => .nil) pass0 (fun _ _ _ _ => ZE.none) (ja (jv 0) (ja (jop omod (jcallT cint (by rfl) T.b_int bb_int (ja (jv 3) (ja0))) (jint)) (ja0)))))
    (jb1 (js_if (jtcmp (oeq hr.units) (jcall ((ok_l_take T).mono (by decide)) hr (by rfl) T.g_l_take T.F_l_take.kp T.bi_l_take .nil (fun _ => .nil) pass0 (fun _ _ _ _ => ZE.none) (ja (jv 0) (ja (jint) (ja0)))) (jint) (nomark _))
    (jb1 (js_set (i := 2) nd rfl (by first | exact Or.inl rfl | exact Or.inr rfl) (jtup (ja (jv 2) (ja (jv 4) (ja (jtup (ja0)) (ja0)))))))
    (jb1 (js_set (i := 2) nd rfl (by first | exact Or.inl rfl | exact Or.inr rfl) (jtup (ja (jtup (ja0)) (ja (jv 4) (ja (jv 2) (ja0)))))))))))
    (jb1 (js_ret (jv 2))))
theorem sc_l_bent_shape : FnScope ["_law_store_here", "_law_shape_here", "_law_road", "_law_part", "_law_k", "_law_style", "_law_above", "_law_side"] ["_law_store_here", "_law_shape_here"] (defScope s_l_bent_shape) := ⟨rfl, rfl, rfl, by decide +kernel, rfl, by decide +kernel, by decide +kernel⟩
theorem ok_l_bent_shape (T : Txt K mg fa fd) : FnOk P w K mg base CX0 2 (fa 16) (fd 16) ["_law_store_here", "_law_shape_here"] (lowSp K sp_l_bent_shape) := by
  refine fnok (t := t_l_bent_shape sp_l_take) T.F_l_bent_shape sc_l_bent_shape len_l_bent_shape (fun cdv A outer s H E hr => ?_) pure_l_bent_shape
  have hu := hu_of hr
  have nd := sc_l_bent_shape.nd
  exact jb (js_set (i := 2) nd rfl (by first | exact Or.inl rfl | exact Or.inr rfl) (jlst (ja0)))
    (jb (js_set (i := 3) nd rfl (by first | exact Or.inl rfl | exact Or.inr rfl) (jv 1))
    (jb (js_for PassesOwn.never rfl (ji_range1 (by rfl) T.b_range (ja (jcall ((ok_l_take T).mono (by decide)) hr (by rfl) T.g_l_take T.F_l_take.kp T.bi_l_take .nil (fun _ => .nil) pass0 (fun _ _ _ _ => ZE.none) (ja (jv 0) (ja (jint) (ja0)))) (ja0))) (kg (i := 4) nd rfl (by first | exact Or.inl rfl | exact Or.inr rfl))
    (jb1 (js_if (jtcmp (one_ hr.units) (jv 3) (jtup (ja0)) (nomark _))
    (jb (js_set (i := 7) nd rfl (by first | exact Or.inl rfl | exact Or.inr rfl) (jop omul (jint) (jcall ((ok_l_take T).mono (by decide)) hr (by rfl) T.g_l_take T.F_l_take.kp T.bi_l_take .nil (fun _ => .nil) pass0 (fun _ _ _ _ => ZE.none) (ja (jv 0) (ja (jint) (ja0))))))
    (jb (js_expr (jbm PySem.F.plainAttrs_list PySem.F.slot_list_append PySem.F.type_list_append mappend (jv 2) (ja (jtup (ja (jv 3) (ja (jv 7) (ja0)))) (ja0))))
    (jb1 (js_set (i := 3) nd rfl (by first | exact Or.inl rfl | exact Or.inr rfl) (jix (oix hu) (jv 3) (jv 7) (fun _ _ => rfl))))))
    (jb0))))
    (jb (js_set (i := 5) nd rfl (by first | exact Or.inl rfl | exact Or.inr rfl) (jcall ((ok_l_take T).mono (by decide)) hr (by rfl) T.g_l_take T.F_l_take.kp T.bi_l_take .nil (fun _ => .nil) pass0 (fun _ _ _ _ => ZE.none) (ja (jv 0) (ja (jint) (ja0)))))
    (jb (js_if (jtcmp (oeq hr.units) (jv 5) (jint) (nomark _))
    (jb1 (js_set (i := 3) nd rfl (by first | exact Or.inl rfl | exact Or.inr rfl) (jtup (ja0))))
    (jb0))
    (jb (js_if (jtcmp ogt (jv 5) (jint) (nomark _))
    (jb1 (js_set (i := 3) nd rfl (by first | exact Or.inl rfl | exact Or.inr rfl) (jtup (ja (jv 3) (ja (jtup (ja (jstr) (ja0))) (ja (jtup (ja0)) (ja0)))))))
    (jb0))
    (jb (js_if (jtcmp (oeq hr.units) (jv 5) (jint) (nomark _))
    (jb1 (js_set (i := 3) nd rfl (by first | exact Or.inl rfl | exact Or.inr rfl) (jtup (ja (jtup (ja0)) (ja (jtup (ja (jstr) (ja (jstr) (ja0)))) (ja (jv 3) (ja0)))))))
    (jb0))
    (jb (js_for PassesOwn.never rfl (ji_range1 (by rfl) T.b_range (ja (jcallF clen (by rfl) T.b_len bb_len (ja (jv 2) (ja0))) (ja0))) (kg (i := 4) nd rfl (by first | exact Or.inl rfl | exact Or.inr rfl))
    (jb (js_set (i := 6) nd rfl (by first | exact Or.inl rfl | exact Or.inr rfl) (jix (oix hu) (jv 2) (jop osub (jop osub (jcallF clen (by rfl) T.b_len bb_len (ja (jv 2) (ja0))) (jint)) (jv 4)) (fun _ _ => rfl)))
    (jb1 (js_if (jtcmp (oeq hr.units) (jix (oix hu) (jv 6) (jint) (fun _ _ => rfl)) (jint) (nomark _))
    (jb1 (js_set (i := 3) nd rfl (by first | exact Or.inl rfl | exact Or.inr rfl) (jtup (ja (jv 3) (ja (jix (oix hu) (jix (oix hu) (jv 6) (jint) (fun _ _ => rfl)) (jint) (fun _ _ => rfl)) (ja (jix (oix hu) (jix (oix hu) (jv 6) (jint) (fun _ _ => rfl)) (jint) (fun _ _ => rfl)) (ja0)))))))
    (jb1 (js_set (i := 3) nd rfl (by first | exact Or.inl rfl | exact Or.inr rfl) (jtup (ja (jix (oix hu) (jix (oix hu) (jv 6) (jint) (fun _ _ => rfl)) (jint) (fun _ _ => rfl)) (ja (jix (oix hu) (jix (oix hu) (jv 6) (jint) (fun _ _ => rfl)) (jint) (fun _ _ => rfl)) (ja (jv 3) (ja0)))))))))))
    (jb1 (js_ret (jv 3))))))))))
theorem sc_l_shape : FnScope ["_law_store_here", "_law_style", "_law_one", "_law_two"] ["_law_store_here"] (defScope s_l_shape) := ⟨rfl, rfl, rfl, by decide +kernel, rfl, by decide +kernel, by decide +kernel⟩
theorem ok_l_shape (T : Txt K mg fa fd) : FnOk P w K mg base CX0 13 (fa 15) (fd 15) ["_law_store_here"] (lowSp K sp_l_shape) := by
  refine fnok (t := t_l_shape sp_l_take sp_l_balanced sp_l_bent_shape sp_l_chain sp_l_least_shape sp_l_between sp_l_key) T.F_l_shape sc_l_shape len_l_shape (fun cdv A outer s H E hr => ?_) pure_l_shape
  have hu := hu_of hr
  have nd := sc_l_shape.nd
  exact jb (js_set (i := 1) nd rfl (by first | exact Or.inl rfl | exact Or.inr rfl) (jcall ((ok_l_take T).mono (by decide)) hr (by rfl) T.g_l_take T.F_l_take.kp T.bi_l_take .nil (fun _ => .nil) pass0 (fun _ _ _ _ => ZE.none) (ja (jv 0) (ja (jint) (ja0)))))
    (jb (js_if (jtcmp (oeq hr.units) (jv 1) (jint) (nomark _))
    (jb1 (js_ret (jcall ((ok_l_chain T).mono (by decide)) hr (by rfl) T.g_l_chain T.F_l_chain.kp T.bi_l_chain .nil (fun _ => .nil) pass0 (fun _ _ _ _ => ZE.none) (ja (jv 0) (ja (jcall ((ok_l_between T).mono (by decide)) hr (by rfl) T.g_l_between T.F_l_between.kp T.bi_l_between .nil (fun _ => .nil) pass0 (fun _ _ _ _ => ZE.none) (ja (jv 0) (ja (jint) (ja (jint) (ja0))))) (ja0))))))
    (jb0))
    (jb (js_if (jtcmp (oeq hr.units) (jv 1) (jint) (nomark _))
    (jb1 (js_ret (jcall ((ok_l_least_shape T).mono (by decide)) hr (by rfl) T.g_l_least_shape T.F_l_least_shape.kp T.bi_l_least_shape .nil (fun _ => .nil) pass0 (fun _ _ _ _ => ZE.none) (ja (jcall ((ok_l_take T).mono (by decide)) hr (by rfl) T.g_l_take T.F_l_take.kp T.bi_l_take .nil (fun _ => .nil) pass0 (fun _ _ _ _ => ZE.none) (ja (jv 0) (ja (jint) (ja0)))) (ja (jcmp (oeq hr.units) (jcall ((ok_l_take T).mono (by decide)) hr (by rfl) T.g_l_take T.F_l_take.kp T.bi_l_take .nil (fun _ => .nil) pass0 (fun _ _ _ _ => ZE.none) (ja (jv 0) (ja (jint) (ja0)))) (jint) (nomark _)) (ja0))))))
    (jb0))
    (jb (js_set (i := 2) nd rfl (by first | exact Or.inl rfl | exact Or.inr rfl) (jcall ((ok_l_balanced T).mono (by decide)) hr (by rfl) T.g_l_balanced T.F_l_balanced.kp T.bi_l_balanced .nil (fun _ => .nil) pass0 (fun _ _ _ _ => ZE.none) (ja (jv 0) (ja (jcall ((ok_l_take T).mono (by decide)) hr (by rfl) T.g_l_take T.F_l_take.kp T.bi_l_take .nil (fun _ => .nil) pass0 (fun _ _ _ _ => ZE.none) (ja (jv 0) (ja (jint) (ja0)))) (ja (jlst (ja0)) (ja0))))))
    (jb (js_if (jtcmp olt (jv 1) (jint) (nomark _))
    (jb1 (js_ret (jv 2)))
    (jb0))
    (jb (js_if (jtcmp (oeq hr.units) (jv 1) (jint) (nomark _))
    (jb (js_set (i := 3) nd rfl (by first | exact Or.inl rfl | exact Or.inr rfl) (jcall ((ok_l_balanced T).mono (by decide)) hr (by rfl) T.g_l_balanced T.F_l_balanced.kp T.bi_l_balanced .nil (fun _ => .nil) pass0 (fun _ _ _ _ => ZE.none) (ja (jv 0) (ja (jcall ((ok_l_take T).mono (by decide)) hr (by rfl) T.g_l_take T.F_l_take.kp T.bi_l_take .nil (fun _ => .nil) pass0 (fun _ _ _ _ => ZE.none) (ja (jv 0) (ja (jint) (ja0)))) (ja (jlst (ja0)) (ja0))))))
    (jb1 (js_ret (jtup (ja (jv 2) (ja (jcall ((ok_l_key T).mono (by decide)) hr (by rfl) T.g_l_key T.F_l_key.kp T.bi_l_key .nil (fun _ => .nil) pass0 (fun _ _ _ _ => ZE.none) (ja (jv 0) (ja (jint) (ja0)))) (ja (jv 3) (ja0))))))))
    (jb0))
    (jb (js_if (jtcmp (oeq hr.units) (jv 1) (jint) (nomark _))
    (jb1 (js_ret (jtup (ja (jv 2) (ja (jcall ((ok_l_key T).mono (by decide)) hr (by rfl) T.g_l_key T.F_l_key.kp T.bi_l_key .nil (fun _ => .nil) pass0 (fun _ _ _ _ => ZE.none) (ja (jv 0) (ja (jint) (ja0)))) (ja (jcall ((ok_l_chain T).mono (by decide)) hr (by rfl) T.g_l_chain T.F_l_chain.kp T.bi_l_chain .nil (fun _ => .nil) pass0 (fun _ _ _ _ => ZE.none) (ja (jv 0) (ja (jcall ((ok_l_take T).mono (by decide)) hr (by rfl) T.g_l_take T.F_l_take.kp T.bi_l_take .nil (fun _ => .nil) pass0 (fun _ _ _ _ => ZE.none) (ja (jv 0) (ja (jint) (ja0)))) (ja0)))) (ja0)))))))
    (jb0))
    (jb1 (js_ret (jcall ((ok_l_bent_shape T).mono (by decide)) hr (by rfl) T.g_l_bent_shape T.F_l_bent_shape.kp T.bi_l_bent_shape .nil (fun _ => .nil) pass0 (fun _ _ _ _ => ZE.none) (ja (jv 0) (ja (jv 2) (ja0))))))))))))
theorem sc_l_measured : FnScope ["_law_shape_here", "_law_left", "_law_told", "_law_keys", "_law_balanced_here", "_law_k", "_law_step", "_law_part", "_law_high", "_law_low"] ["_law_shape_here"] (defScope s_l_measured) := ⟨rfl, rfl, rfl, by decide +kernel, rfl, by decide +kernel, by decide +kernel⟩
theorem ok_l_measured (T : Txt K mg fa fd) : FnOk P w K mg base CX0 1 (fa 17) (fd 17) ["_law_shape_here"] (lowSp K sp_l_measured) := by
  refine fnok (t := t_l_measured ) T.F_l_measured sc_l_measured len_l_measured (fun cdv A outer s H E hr => ?_) pure_l_measured
  have hu := hu_of hr
  have nd := sc_l_measured.nd
  exact jb (js_set (i := 1) nd rfl (by first | exact Or.inl rfl | exact Or.inr rfl) (jlst (ja (jtup (ja (jstr) (ja (jv 0) (ja0)))) (ja0))))
    (jb (js_set (i := 2) nd rfl (by first | exact Or.inl rfl | exact Or.inr rfl) (jlst (ja0)))
    (jb (js_set (i := 3) nd rfl (by first | exact Or.inl rfl | exact Or.inr rfl) (jlst (ja0)))
    (jb (js_set (i := 4) nd rfl (by first | exact Or.inl rfl | exact Or.inr rfl) (jbl))
    (jb (js_for PassesOwn.never rfl (ji_range1 (by rfl) T.b_range (ja (jint) (ja0))) (kg (i := 5) nd rfl (by first | exact Or.inl rfl | exact Or.inr rfl))
    (jb (js_if (jtcmp (oeq hr.units) (jcallF clen (by rfl) T.b_len bb_len (ja (jv 1) (ja0))) (jint) (nomark _))
    (jb1 (js_ret (jlst (ja (jix (oix hu) (jv 2) (jint) (fun _ _ => rfl)) (ja (jcallF clen (by rfl) T.b_len bb_len (ja (jv 3) (ja0))) (ja (jv 4) (ja (jv 3) (ja0))))))))
    (jb0))
    (jb (js_set (i := 6) nd rfl (by first | exact Or.inl rfl | exact Or.inr rfl) (jbm0 PySem.F.plainAttrs_list PySem.F.slot_list_pop PySem.F.type_list_pop mpop (jv 1)))
    (jb (js_set (i := 7) nd rfl (by first | exact Or.inl rfl | exact Or.inr rfl) (jix (oix hu) (jv 6) (jint) (fun _ _ => rfl)))
    (jb1 (js_if (jtcmp (oeq hr.units) (jix (oix hu) (jv 6) (jint) (fun _ _ => rfl)) (jstr) (nomark _))
    (jb1 (js_expr (jbm PySem.F.plainAttrs_list PySem.F.slot_list_append PySem.F.type_list_append mappend (jv 3) (ja (jv 7) (ja0)))))
    (jb1 (js_if (jtcmp (oeq hr.units) (jix (oix hu) (jv 6) (jint) (fun _ _ => rfl)) (jstr) (nomark _))
    (jb (js_set (i := 8) nd rfl (by first | exact Or.inl rfl | exact Or.inr rfl) (jbm0 PySem.F.plainAttrs_list PySem.F.slot_list_pop PySem.F.type_list_pop mpop (jv 2)))
    (jb (js_set (i := 9) nd rfl (by first | exact Or.inl rfl | exact Or.inr rfl) (jbm0 PySem.F.plainAttrs_list PySem.F.slot_list_pop PySem.F.type_list_pop mpop (jv 2)))
    (jb (js_expr (jbm PySem.F.plainAttrs_list PySem.F.slot_list_append PySem.F.type_list_append mappend (jv 2) (ja (jop oadd (jint) (jcallF (cmax rfl) (by rfl) T.b_max bb_max (ja (jv 9) (ja (jv 8) (ja0))))) (ja0))))
    (jb1 (js_set (i := 4) nd rfl (by first | exact Or.inl rfl | exact Or.inr rfl) (jand (jv 4) (jone (jcmp ole (jcallF cabs (by rfl) T.b_abs bb_abs (ja (jop osub (jv 9) (jv 8)) (ja0))) (jint) (nomark _)))))))))
    (jb1 (js_if (PW.pt (jwor (jtnot (jtval (jcallF (cisi .tup (by decide)) (by rfl) T.b_isinstance bb_isinstance (ja (jv 7) (ja (jbltn (by rfl) T.b_tuple bb_tuple) ja0))))) (pw_or1 (jtcmp (onotin hu) (jcallF clen (by rfl) T.b_len bb_len (ja (jv 7) (ja0))) (jlst (ja (jint) (ja (jint) (ja0)))) rfl))))
    (jb1 (js_ret (jnon)))
    (jb1 (js_if (jtcmp (oeq hr.units) (jcallF clen (by rfl) T.b_len bb_len (ja (jv 7) (ja0))) (jint) (nomark _))
    (jb1 (js_expr (jbm PySem.F.plainAttrs_list PySem.F.slot_list_append PySem.F.type_list_append mappend (jv 2) (ja (jint) (ja0)))))
    (jb (js_expr (jbm PySem.F.plainAttrs_list PySem.F.slot_list_append PySem.F.type_list_append mappend (jv 1) (ja (jtup (ja (jstr) (ja (jnon) (ja0)))) (ja0))))
    (jb (js_expr (jbm PySem.F.plainAttrs_list PySem.F.slot_list_append PySem.F.type_list_append mappend (jv 1) (ja (jtup (ja (jstr) (ja (jix (oix hu) (jv 7) (jint) (fun _ _ => rfl)) (ja0)))) (ja0))))
    (jb (js_expr (jbm PySem.F.plainAttrs_list PySem.F.slot_list_append PySem.F.type_list_append mappend (jv 1) (ja (jtup (ja (jstr) (ja (jix (oix hu) (jv 7) (jint) (fun _ _ => rfl)) (ja0)))) (ja0))))
    (jb1 (js_expr (jbm PySem.F.plainAttrs_list PySem.F.slot_list_append PySem.F.type_list_append mappend (jv 1) (ja (jtup (ja (jstr) (ja (jix (oix hu) (jv 7) (jint) (fun _ _ => rfl)) (ja0)))) (ja0))))))))))))))))))))
    (jb1 (js_ret (jnon)))))))
theorem sc_l_even : FnScope ["_law_keys", "_law_at"] ["_law_keys"] (defScope s_l_even) := ⟨rfl, rfl, rfl, by decide +kernel, rfl, by decide +kernel, by decide +kernel⟩
theorem body_l_even (T : Txt K mg fa fd) {k : Nat} {sp : Sp2} (hk : 0 ≤ k) (ih : FnOk P w K mg base CX0 k (fa 18) (fd 18) ["_law_keys"] (lowSp K sp)) (cdv : Value) (A : Around) (outer : List Env) (s : Shared) (H : Hp) (E : XK) (hr : Room k (A.deeper (envOfC "_law_even" (defScope s_l_even) s.heap.objs.size (fa 18) cdv))) :
    B2 (cxOf CX0 P w K mg base ["_law_keys", "_law_at"] "_law_even" (defScope s_l_even) (fa 18) cdv A outer s H E).nox Z0 (defBody s_l_even) (t_l_even  sp) := by
  have hu := hu_of hr
  have nd := sc_l_even.nd
  exact jb (js_if (jtcmp (oeq hr.units) (jcallF clen (by rfl) T.b_len bb_len (ja (jv 0) (ja0))) (jint) (nomark _))
    (jb1 (js_ret (jtup (ja0))))
    (jb0))
    (jb (js_set (i := 1) nd rfl (by first | exact Or.inl rfl | exact Or.inr rfl) (jop ofdiv (jcallF clen (by rfl) T.b_len bb_len (ja (jv 0) (ja0))) (jint)))
    (jb1 (js_ret (jtup (ja (jcall ih hr (by rfl) T.g_l_even T.F_l_even.kp T.bi_l_even .nil (fun _ => .nil) pass0 (fun _ _ _ _ => ZE.none) (ja (jsl (jv 0) jo0 (jo (jv 1))) (ja0))) (ja (jix (oix hu) (jv 0) (jv 1) (fun _ _ => rfl)) (ja (jcall ih hr (by rfl) T.g_l_even T.F_l_even.kp T.bi_l_even .nil (fun _ => .nil) pass0 (fun _ _ _ _ => ZE.none) (ja (jsl (jv 0) (jo (jop oadd (jv 1) (jint))) jo0) (ja0))) (ja0))))))))
theorem ok_l_even (T : Txt K mg fa fd) : FnOk P w K mg base CX0 10 (fa 18) (fd 18) ["_law_keys"] (lowSp K sp_l_even) := by
  have step : ∀ n, FnOk P w K mg base CX0 (n + 1) (fa 18) (fd 18) ["_law_keys"] (lowSp K (spn_l_even n)) := by
    intro n
    induction n with
    | zero => exact fnok (k := 0) (t := t_l_even  (fun _ _ _ _ => False)) T.F_l_even sc_l_even (len_l_even 0) (body_l_even T (by decide) never) pure_l_even_0
    | succ n ih =>
      have e : n + 1 + 1 = (n + 1) + 1 := by omega
      rw [e]
      exact fnok (k := n + 1) (t := t_l_even  (spn_l_even n)) T.F_l_even sc_l_even (len_l_even (n + 1)) (body_l_even T (by omega) ih) (pure_l_even_s n)
  exact (step 9).mono (by decide)
theorem sc_l_plain_keys : FnScope ["_law_store_here", "_law_many", "_law_repeated", "_law_words", "_law_k"] ["_law_store_here", "_law_many"] (defScope s_l_plain_keys) := ⟨rfl, rfl, rfl, by decide +kernel, rfl, by decide +kernel, by decide +kernel⟩
theorem ok_l_plain_keys (T : Txt K mg fa fd) : FnOk P w K mg base CX0 5 (fa 19) (fd 19) ["_law_store_here", "_law_many"] (lowSp K sp_l_plain_keys) := by
  refine fnok (t := t_l_plain_keys sp_l_take sp_l_key) T.F_l_plain_keys sc_l_plain_keys len_l_plain_keys (fun cdv A outer s H E hr => ?_) pure_l_plain_keys
  have hu := hu_of hr
  have nd := sc_l_plain_keys.nd
  exact jb (js_set (i := 2) nd rfl (by first | exact Or.inl rfl | exact Or.inr rfl) (jop oadd (jint) (jcall ((ok_l_take T).mono (by decide)) hr (by rfl) T.g_l_take T.F_l_take.kp T.bi_l_take .nil (fun _ => .nil) pass0 (fun _ _ _ _ => ZE.none) (ja (jv 0) (ja (jv 1) (ja0))))))
    (jb (js_set (i := 3) nd rfl (by first | exact Or.inl rfl | exact Or.inr rfl) (jcallT (clist rfl) (by rfl) T.b_list bb_list (ja (jcall ((ok_l_key T).mono (by decide)) hr (by rfl) T.g_l_key T.F_l_key.kp T.bi_l_key .nil (fun _ => .nil) pass0 (fun _ _ _ _ => ZE.none) (ja (jv 0) (ja (jint) (ja0)))) (ja0))))
    (jb (js_if (jtcmp (oeq hr.units) (jcall ((ok_l_take T).mono (by decide)) hr (by rfl) T.g_l_take T.F_l_take.kp T.bi_l_take .nil (fun _ => .nil) pass0 (fun _ _ _ _ => ZE.none) (ja (jv 0) (ja (jint) (ja0)))) (jint) (nomark _))
    (jb1 (js_set (i := 2) nd rfl (by first | exact Or.inl rfl | exact Or.inr rfl) (jop oadd (jv 1) (jint))))
    (jb0))
    (jb1 (js_ret (by exact jlc (own := [(("_law_k" : Str), 4)]) rfl nd (ji_range1 (by rfl) T.b_range (ja (jv 1) (ja0))) (blkOk_by (own := [(("_law_k" : Str), 4)]) (N := [("_law_store_here" : Str), ("_law_many" : Str), ("_law_repeated" : Str), ("_law_words" : Str), ("_law_k" : Str)]) (sc := defScope s_l_plain_keys) (by decide +kernel)) (gw_name (j := 4) (by decide)) (fun _ _ _ _ _ => (pg_name (i := 4) nd rfl (by first | exact Or.inl rfl | exact Or.inr rfl))) (fun _ _ _ _ _ => jts0) (fun _ _ _ _ _ => jcallT ctuple (by rfl) T.b_tuple bb_tuple (ja (jop oadd (jsl (jv 3) jo0 (jo (jint))) (jlst (ja (jop oadd (jstr) (jcallT cstr (by rfl) T.b_str bb_str (ja (jop omod (jcallT cint (by rfl) T.b_int bb_int (ja (jv 4) (ja0))) (jv 2)) (ja0)))) (ja0)))) (ja0))))))))
theorem sc_l_spine : FnScope ["_law_store_here", "_law_shape_here", "_law_small", "_law_k", "_law_key_here"] ["_law_store_here"] (defScope s_l_spine) := ⟨rfl, rfl, rfl, by decide +kernel, rfl, by decide +kernel, by decide +kernel⟩
theorem ok_l_spine (T : Txt K mg fa fd) : FnOk P w K mg base CX0 11 (fa 20) (fd 20) ["_law_store_here"] (lowSp K sp_l_spine) := by
  refine fnok (t := t_l_spine sp_l_even sp_l_plain_keys sp_l_between sp_l_take) T.F_l_spine sc_l_spine len_l_spine (fun cdv A outer s H E hr => ?_) pure_l_spine
  have hu := hu_of hr
  have nd := sc_l_spine.nd
  exact jb (js_set (i := 1) nd rfl (by first | exact Or.inl rfl | exact Or.inr rfl) (jtup (ja0)))
    (jb (js_set (i := 2) nd rfl (by first | exact Or.inl rfl | exact Or.inr rfl) (jcall ((ok_l_even T).mono (by decide)) hr (by rfl) T.g_l_even T.F_l_even.kp T.bi_l_even .nil (fun _ => .nil) pass0 (fun _ _ _ _ => ZE.none) (ja (jcall ((ok_l_plain_keys T).mono (by decide)) hr (by rfl) T.g_l_plain_keys T.F_l_plain_keys.kp T.bi_l_plain_keys .nil (fun _ => .nil) pass0 (fun _ _ _ _ => ZE.none) (ja (jv 0) (ja (jcall ((ok_l_take T).mono (by decide)) hr (by rfl) T.g_l_take T.F_l_take.kp T.bi_l_take .nil (fun _ => .nil) pass0 (fun _ _ _ _ => ZE.none) (ja (jv 0) (ja (jint) (ja0)))) (ja0)))) (ja0))))
    (jb (js_for PassesOwn.never rfl (ji_range1 (by rfl) T.b_range (ja (jcall ((ok_l_between T).mono (by decide)) hr (by rfl) T.g_l_between T.F_l_between.kp T.bi_l_between .nil (fun _ => .nil) pass0 (fun _ _ _ _ => ZE.none) (ja (jv 0) (ja (jint) (ja (jint) (ja0))))) (ja0))) (kg (i := 3) nd rfl (by first | exact Or.inl rfl | exact Or.inr rfl))
    (jb (js_set (i := 4) nd rfl (by first | exact Or.inl rfl | exact Or.inr rfl) (jtup (ja (jstr) (ja (jcallT cstr (by rfl) T.b_str bb_str (ja (jv 3) (ja0))) (ja0)))))
    (jb1 (js_if (jtcmp (oeq hr.units) (jcall ((ok_l_take T).mono (by decide)) hr (by rfl) T.g_l_take T.F_l_take.kp T.bi_l_take .nil (fun _ => .nil) pass0 (fun _ _ _ _ => ZE.none) (ja (jv 0) (ja (jint) (ja0)))) (jint) (nomark _))
    (jb1 (js_set (i := 1) nd rfl (by first | exact Or.inl rfl | exact Or.inr rfl) (jtup (ja (jv 1) (ja (jv 4) (ja (jv 2) (ja0)))))))
    (jb1 (js_set (i := 1) nd rfl (by first | exact Or.inl rfl | exact Or.inr rfl) (jtup (ja (jv 2) (ja (jv 4) (ja (jv 1) (ja0)))))))))))
    (jb1 (js_ret (jv 1)))))
theorem sc_l_any_shape : FnScope ["_law_store_here", "_law_style", "_law_shape_here"] ["_law_store_here"] (defScope s_l_any_shape) := ⟨rfl, rfl, rfl, by decide +kernel, rfl, by decide +kernel, by decide +kernel⟩
theorem ok_l_any_shape (T : Txt K mg fa fd) : FnOk P w K mg base CX0 14 (fa 21) (fd 21) ["_law_store_here"] (lowSp K sp_l_any_shape) := by
  refine fnok (t := t_l_any_shape sp_l_take sp_l_even sp_l_shape sp_l_spine sp_l_plain_keys sp_l_bent_shape sp_l_between) T.F_l_any_shape sc_l_any_shape len_l_any_shape (fun cdv A outer s H E hr => ?_) pure_l_any_shape
  have hu := hu_of hr
  have nd := sc_l_any_shape.nd
  exact jb (js_set (i := 1) nd rfl (by first | exact Or.inl rfl | exact Or.inr rfl) (jcall ((ok_l_take T).mono (by decide)) hr (by rfl) T.g_l_take T.F_l_take.kp T.bi_l_take .nil (fun _ => .nil) pass0 (fun _ _ _ _ => ZE.none) (ja (jv 0) (ja (jint) (ja0)))))
    (jb (js_if (jtcmp olt (jv 1) (jint) (nomark _))
    (jb1 (js_ret (jcall ((ok_l_shape T).mono (by decide)) hr (by rfl) T.g_l_shape T.F_l_shape.kp T.bi_l_shape .nil (fun _ => .nil) pass0 (fun _ _ _ _ => ZE.none) (ja (jv 0) (ja0)))))
    (jb0))
    (jb (js_if (jtcmp (oeq hr.units) (jv 1) (jint) (nomark _))
    (jb1 (js_ret (jcall ((ok_l_spine T).mono (by decide)) hr (by rfl) T.g_l_spine T.F_l_spine.kp T.bi_l_spine .nil (fun _ => .nil) pass0 (fun _ _ _ _ => ZE.none) (ja (jv 0) (ja0)))))
    (jb0))
    (jb (js_set (i := 2) nd rfl (by first | exact Or.inl rfl | exact Or.inr rfl) (jcall ((ok_l_even T).mono (by decide)) hr (by rfl) T.g_l_even T.F_l_even.kp T.bi_l_even .nil (fun _ => .nil) pass0 (fun _ _ _ _ => ZE.none) (ja (jcall ((ok_l_plain_keys T).mono (by decide)) hr (by rfl) T.g_l_plain_keys T.F_l_plain_keys.kp T.bi_l_plain_keys .nil (fun _ => .nil) pass0 (fun _ _ _ _ => ZE.none) (ja (jv 0) (ja (jcall ((ok_l_between T).mono (by decide)) hr (by rfl) T.g_l_between T.F_l_between.kp T.bi_l_between .nil (fun _ => .nil) pass0 (fun _ _ _ _ => ZE.none) (ja (jv 0) (ja (jint) (ja (jint) (ja0))))) (ja0)))) (ja0))))
    (jb (js_if (jtcmp (oeq hr.units) (jv 1) (jint) (nomark _))
    (jb1 (js_set (i := 2) nd rfl (by first | exact Or.inl rfl | exact Or.inr rfl) (jcall ((ok_l_even T).mono (by decide)) hr (by rfl) T.g_l_even T.F_l_even.kp T.bi_l_even .nil (fun _ => .nil) pass0 (fun _ _ _ _ => ZE.none) (ja (jcall ((ok_l_plain_keys T).mono (by decide)) hr (by rfl) T.g_l_plain_keys T.F_l_plain_keys.kp T.bi_l_plain_keys .nil (fun _ => .nil) pass0 (fun _ _ _ _ => ZE.none) (ja (jv 0) (ja (jcall ((ok_l_between T).mono (by decide)) hr (by rfl) T.g_l_between T.F_l_between.kp T.bi_l_between .nil (fun _ => .nil) pass0 (fun _ _ _ _ => ZE.none) (ja (jv 0) (ja (jint) (ja (jint) (ja0))))) (ja0)))) (ja0)))))
    (jb0))
    (jb (js_if (jtcmp olt (jv 1) (jint) (nomark _))
    (jb1 (js_ret (jcall ((ok_l_bent_shape T).mono (by decide)) hr (by rfl) T.g_l_bent_shape T.F_l_bent_shape.kp T.bi_l_bent_shape .nil (fun _ => .nil) pass0 (fun _ _ _ _ => ZE.none) (ja (jv 0) (ja (jv 2) (ja0))))))
    (jb0))
    (jb1 (js_ret (jv 2))))))))
theorem sc_l_judged : FnScope ["_law_shape_here", "_law_measured_here", "_law_told", "_law_keys"] ["_law_shape_here"] (defScope s_l_judged) := ⟨rfl, rfl, rfl, by decide +kernel, rfl, by decide +kernel, by decide +kernel⟩
theorem ok_l_judged (T : Txt K mg fa fd) : FnOk P w K mg base CX0 65 (fa 22) (fd 22) ["_law_shape_here"] (lowSp K sp_l_judged) := by
  refine fnok (t := t_l_judged sp_l_measured sp_l_same sp_is_balanced sp_shape_height sp_shape_keys) T.F_l_judged sc_l_judged len_l_judged (fun cdv A outer s H E hr => ?_) pure_l_judged
  have hu := hu_of hr
  have nd := sc_l_judged.nd
  exact jb (js_set (i := 1) nd rfl (by first | exact Or.inl rfl | exact Or.inr rfl) (jcall ((ok_l_measured T).mono (by decide)) hr (by rfl) T.g_l_measured T.F_l_measured.kp T.bi_l_measured .nil (fun _ => .nil) pass0 (fun _ _ _ _ => ZE.none) (ja (jv 0) (ja0))))
    (jb (js_set (i := 2) nd rfl (by first | exact Or.inl rfl | exact Or.inr rfl) (jlst (ja (jcall ((ok_is_balanced T).mono (by decide)) hr (by rfl) T.g_is_balanced T.F_is_balanced.kp T.bi_is_balanced .nil (fun _ => .nil) pass0 (fun _ _ _ _ => ZE.none) (ja (jv 0) (ja0))) (ja (jcall ((ok_shape_height T).mono (by decide)) hr (by rfl) T.g_shape_height T.F_shape_height.kp T.bi_shape_height .nil (fun _ => .nil) pass0 (fun _ _ _ _ => ZE.none) (ja (jv 0) (ja0))) (ja (jcall ((ok_shape_keys T).mono (by decide)) hr (by rfl) T.g_shape_keys T.F_shape_keys.kp T.bi_shape_keys .nil (fun _ => .nil) pass0 (fun _ _ _ _ => ZE.none) (ja (jv 0) (ja0))) (ja0))))))
    (jb (js_if (jtnot (jtval (jcall ((ok_l_same T).mono (by decide)) hr (by rfl) T.g_l_same T.F_l_same.kp T.bi_l_same .nil (fun _ => .nil) pass0 (fun _ _ _ _ => ZE.none) (ja (jv 2) (ja (jlst (ja (jix (oix hu) (jv 1) (jint) (fun _ _ => rfl)) (ja (jix (oix hu) (jv 1) (jint) (fun _ _ => rfl)) (ja (jix (oix hu) (jv 1) (jint) (fun _ _ => rfl)) (ja0))))) (ja0))))))
    (jb1 (js_ret (jbl)))
    (jb0))
    (jb (js_set (i := 3) nd rfl (by first | exact Or.inl rfl | exact Or.inr rfl) (jix (oix hu) (jv 2) (jint) (fun _ _ => rfl)))
    (jb (js_expr (jbm PySem.F.plainAttrs_list PySem.F.slot_list_append PySem.F.type_list_append mappend (jv 3) (ja (jtup (ja (jstr) (ja0))) (ja0))))
    (jb (js_expr (jbm0 PySem.F.plainAttrs_list PySem.F.slot_list_reverse PySem.F.type_list_reverse mreverse (jv 3)))
    (jb (js_set (i := 2) nd rfl (by first | exact Or.inl rfl | exact Or.inr rfl) (jlst (ja (jcall ((ok_is_balanced T).mono (by decide)) hr (by rfl) T.g_is_balanced T.F_is_balanced.kp T.bi_is_balanced .nil (fun _ => .nil) pass0 (fun _ _ _ _ => ZE.none) (ja (jv 0) (ja0))) (ja (jcall ((ok_shape_height T).mono (by decide)) hr (by rfl) T.g_shape_height T.F_shape_height.kp T.bi_shape_height .nil (fun _ => .nil) pass0 (fun _ _ _ _ => ZE.none) (ja (jv 0) (ja0))) (ja (jcall ((ok_shape_keys T).mono (by decide)) hr (by rfl) T.g_shape_keys T.F_shape_keys.kp T.bi_shape_keys .nil (fun _ => .nil) pass0 (fun _ _ _ _ => ZE.none) (ja (jv 0) (ja0))) (ja0))))))
    (jb1 (js_ret (jcall ((ok_l_same T).mono (by decide)) hr (by rfl) T.g_l_same T.F_l_same.kp T.bi_l_same .nil (fun _ => .nil) pass0 (fun _ _ _ _ => ZE.none) (ja (jv 2) (ja (jlst (ja (jix (oix hu) (jv 1) (jint) (fun _ _ => rfl)) (ja (jix (oix hu) (jv 1) (jint) (fun _ _ => rfl)) (ja (jix (oix hu) (jv 1) (jint) (fun _ _ => rfl)) (ja0))))) (ja0))))))))))))
theorem sc_law : FnScope ["_law_script", "_law_store_here", "_law_first", "_law_second", "_law_shapes", "_law_shape_here"] ["_law_script"] (defScope s_law) := ⟨rfl, rfl, rfl, by decide +kernel, rfl, by decide +kernel, by decide +kernel⟩
theorem ok_law (T : Txt K mg fa fd) : FnOk P w K mg base CX0 66 (fa 23) (fd 23) ["_law_script"] (lowSp K sp_law) := by
  refine fnok (t := t_law sp_l_store sp_l_any_shape sp_l_judged) T.F_law sc_law len_law (fun cdv A outer s H E hr => ?_) pure_law
  have hu := hu_of hr
  have nd := sc_law.nd
  exact jb (js_set (i := 1) nd rfl (by first | exact Or.inl rfl | exact Or.inr rfl) (jcall ((ok_l_store T).mono (by decide)) hr (by rfl) T.g_l_store T.F_l_store.kp T.bi_l_store .nil (fun _ => .nil) pass0 (fun _ _ _ _ => ZE.none) (ja (jv 0) (ja0))))
    (jb (js_set (i := 2) nd rfl (by first | exact Or.inl rfl | exact Or.inr rfl) (jcall ((ok_l_any_shape T).mono (by decide)) hr (by rfl) T.g_l_any_shape T.F_l_any_shape.kp T.bi_l_any_shape .nil (fun _ => .nil) pass0 (fun _ _ _ _ => ZE.none) (ja (jv 1) (ja0))))
    (jb (js_set (i := 3) nd rfl (by first | exact Or.inl rfl | exact Or.inr rfl) (jcall ((ok_l_any_shape T).mono (by decide)) hr (by rfl) T.g_l_any_shape T.F_l_any_shape.kp T.bi_l_any_shape .nil (fun _ => .nil) pass0 (fun _ _ _ _ => ZE.none) (ja (jv 1) (ja0))))
    (jb (js_set (i := 4) nd rfl (by first | exact Or.inl rfl | exact Or.inr rfl) (jlst (ja (jv 2) (ja (jv 3) (ja (jv 2) (ja0))))))
    (jb (js_for PassesOwn.never rfl (ji_list (jlst (ja (jv 2) (ja (jv 3) (ja0))))) (kg (i := 5) nd rfl (by first | exact Or.inl rfl | exact Or.inr rfl))
    (jb1 (js_if (jtcmp (one_ hr.units) (jv 5) (jtup (ja0)) (nomark _))
    (jb1 (js_set (i := 4) nd rfl (by first | exact Or.inl rfl | exact Or.inr rfl) (jop oadd (jv 4) (jlst (ja (jix (oix hu) (jv 5) (jint) (fun _ _ => rfl)) (ja (jix (oix hu) (jv 5) (jint) (fun _ _ => rfl)) (ja0)))))))
    (jb0))))
    (jb (js_for PassesOwn.never rfl (ji_list (jop oadd (jv 4) (jlst (ja (jv 3) (ja0))))) (kg (i := 5) nd rfl (by first | exact Or.inl rfl | exact Or.inr rfl))
    (jb1 (js_if (jtnot (jtval (jcall ((ok_l_judged T).mono (by decide)) hr (by rfl) T.g_l_judged T.F_l_judged.kp T.bi_l_judged .nil (fun _ => .nil) pass0 (fun _ _ _ _ => ZE.none) (ja (jv 5) (ja0)))))
    (jb1 (js_ret (jbl)))
    (jb0))))
    (jb1 (js_ret (jbl))))))))
end

/-! ### the head (printed by gen.py) -/
def hdFn : List He.DefD := [⟨("is_balanced", none), "is_balanced", "is_balanced", defArgs s_is_balanced, defBody s_is_balanced, defScope s_is_balanced, [], []⟩, ⟨("balanced_height", none), "balanced_height", "balanced_height", defArgs s_balanced_height, defBody s_balanced_height, defScope s_balanced_height, [], []⟩, ⟨("shape_keys", none), "shape_keys", "shape_keys", defArgs s_shape_keys, defBody s_shape_keys, defScope s_shape_keys, [], []⟩, ⟨("collect_keys", none), "collect_keys", "collect_keys", defArgs s_collect_keys, defBody s_collect_keys, defScope s_collect_keys, [], []⟩, ⟨("shape_height", none), "shape_height", "shape_height", defArgs s_shape_height, defBody s_shape_height, defScope s_shape_height, [], []⟩, ⟨("_law_store", none), "_law_store", "_law_store", defArgs s_l_store, defBody s_l_store, defScope s_l_store, [], []⟩, ⟨("_law_take", none), "_law_take", "_law_take", defArgs s_l_take, defBody s_l_take, defScope s_l_take, [], []⟩, ⟨("_law_between", none), "_law_between", "_law_between", defArgs s_l_between, defBody s_l_between, defScope s_l_between, [], []⟩, ⟨("_law_is_integer", none), "_law_is_integer", "_law_is_integer", defArgs s_l_is_integer, defBody s_l_is_integer, defScope s_l_is_integer, [], []⟩, ⟨("_law_same", none), "_law_same", "_law_same", defArgs s_l_same, defBody s_l_same, defScope s_l_same, [], []⟩, ⟨("_law_name", none), "_law_name", "_law_name", defArgs s_l_name, defBody s_l_name, defScope s_l_name, [], []⟩, ⟨("_law_key", none), "_law_key", "_law_key", defArgs s_l_key, defBody s_l_key, defScope s_l_key, [], []⟩, ⟨("_law_balanced", none), "_law_balanced", "_law_balanced", defArgs s_l_balanced, defBody s_l_balanced, defScope s_l_balanced, [], []⟩, ⟨("_law_least_shape", none), "_law_least_shape", "_law_least_shape", defArgs s_l_least_shape, defBody s_l_least_shape, defScope s_l_least_shape, [], []⟩, ⟨("_law_chain", none), "_law_chain", "_law_chain", defArgs s_l_chain, defBody s_l_chain, defScope s_l_chain, [], []⟩, ⟨("_law_shape", none), "_law_shape", "_law_shape", defArgs s_l_shape, defBody s_l_shape, defScope s_l_shape, [], []⟩, ⟨("_law_bent_shape", none), "_law_bent_shape", "_law_bent_shape", defArgs s_l_bent_shape, defBody s_l_bent_shape, defScope s_l_bent_shape, [], []⟩, ⟨("_law_measured", none), "_law_measured", "_law_measured", defArgs s_l_measured, defBody s_l_measured, defScope s_l_measured, [], []⟩, ⟨("_law_even", none), "_law_even", "_law_even", defArgs s_l_even, defBody s_l_even, defScope s_l_even, [], []⟩, ⟨("_law_plain_keys", none), "_law_plain_keys", "_law_plain_keys", defArgs s_l_plain_keys, defBody s_l_plain_keys, defScope s_l_plain_keys, [], []⟩, ⟨("_law_spine", none), "_law_spine", "_law_spine", defArgs s_l_spine, defBody s_l_spine, defScope s_l_spine, [], []⟩, ⟨("_law_any_shape", none), "_law_any_shape", "_law_any_shape", defArgs s_l_any_shape, defBody s_l_any_shape, defScope s_l_any_shape, [], []⟩, ⟨("_law_judged", none), "_law_judged", "_law_judged", defArgs s_l_judged, defBody s_l_judged, defScope s_l_judged, [], []⟩, ⟨("law", none), "law", "law", defArgs s_law, defBody s_law, defScope s_law, [], []⟩]
def hdFa : List He.Fa := [.glo "is_balanced", .glo "balanced_height", .glo "shape_keys", .glo "collect_keys", .glo "shape_height", .glo "_law_store", .glo "_law_take", .glo "_law_between", .glo "_law_is_integer", .glo "_law_same", .glo "_law_name", .glo "_law_key", .glo "_law_balanced", .glo "_law_least_shape", .glo "_law_chain", .glo "_law_shape", .glo "_law_bent_shape", .glo "_law_measured", .glo "_law_even", .glo "_law_plain_keys", .glo "_law_spine", .glo "_law_any_shape", .glo "_law_judged", .glo "law", .free "abs", .free "bool", .free "dict", .free "int", .free "isinstance", .free "len", .free "list", .free "max", .free "range", .free "str", .free "tuple"]
def hdEx (K : PySem.W.Frag) : Bool := true
abbrev hdR : PySem.W.OpenRow := PySem.W.OpenLaw.row PySem.Challenge.rw_keptjoined_k16_shapes_judged
abbrev hdK : PySem.W.Hook := hookJ 4 hdFa hdFn hdEx
def hdO (s : PySem.W.SharedT) : AlJ := obsJ 4 hdFa hdFn hdEx (HandSHeadRun.getT s)
theorem hdO_eq (s : PySem.W.SharedT) : hdO s = hdK.obs s.abs := obsJ_eq (HandSHeadRun.getT_eq s)
abbrev hdL : List Str := ["is_balanced", "balanced_height", "shape_keys", "collect_keys", "shape_height", "_law_store", "_law_take", "_law_between", "_law_is_integer", "_law_same", "_law_name", "_law_key", "_law_balanced", "_law_least_shape", "_law_chain", "_law_shape", "_law_bent_shape", "_law_measured", "_law_even", "_law_plain_keys", "_law_spine", "_law_any_shape", "_law_judged"]
set_option maxHeartbeats 4000000 in
theorem hdRun (w : World) : HandSHeadRun.RunEq hdR (PySem.W.view hdR.prog [25]) hdK hdO 1960 hdL w := by
  intro os
  kernel_rfl
theorem hdTxt {K : PySem.W.Frag} {h : Heap} {mg : Str → Option Value} (X : K.In h) (G : h.Ns mainGlobals mg) (c : He.SaysD hdFa hdFn K) (ce : hdEx K = true) : ∃ fdv : Nat → FuncData, Txt K mg (fun i => ([He.ga K "is_balanced", He.ga K "balanced_height", He.ga K "shape_keys", He.ga K "collect_keys", He.ga K "shape_height", He.ga K "_law_store", He.ga K "_law_take", He.ga K "_law_between", He.ga K "_law_is_integer", He.ga K "_law_same", He.ga K "_law_name", He.ga K "_law_key", He.ga K "_law_balanced", He.ga K "_law_least_shape", He.ga K "_law_chain", He.ga K "_law_shape", He.ga K "_law_bent_shape", He.ga K "_law_measured", He.ga K "_law_even", He.ga K "_law_plain_keys", He.ga K "_law_spine", He.ga K "_law_any_shape", He.ga K "_law_judged", He.ga K "law"].getD i 0)) fdv := by
  obtain ⟨fd0, F0⟩ := c.def_ 0 (d := ⟨("is_balanced", none), "is_balanced", "is_balanced", defArgs s_is_balanced, defBody s_is_balanced, defScope s_is_balanced, [], []⟩) rfl
  obtain ⟨fd1, F1⟩ := c.def_ 1 (d := ⟨("balanced_height", none), "balanced_height", "balanced_height", defArgs s_balanced_height, defBody s_balanced_height, defScope s_balanced_height, [], []⟩) rfl
  obtain ⟨fd2, F2⟩ := c.def_ 2 (d := ⟨("shape_keys", none), "shape_keys", "shape_keys", defArgs s_shape_keys, defBody s_shape_keys, defScope s_shape_keys, [], []⟩) rfl
  obtain ⟨fd3, F3⟩ := c.def_ 3 (d := ⟨("collect_keys", none), "collect_keys", "collect_keys", defArgs s_collect_keys, defBody s_collect_keys, defScope s_collect_keys, [], []⟩) rfl
  obtain ⟨fd4, F4⟩ := c.def_ 4 (d := ⟨("shape_height", none), "shape_height", "shape_height", defArgs s_shape_height, defBody s_shape_height, defScope s_shape_height, [], []⟩) rfl
  obtain ⟨fd5, F5⟩ := c.def_ 5 (d := ⟨("_law_store", none), "_law_store", "_law_store", defArgs s_l_store, defBody s_l_store, defScope s_l_store, [], []⟩) rfl
  obtain ⟨fd6, F6⟩ := c.def_ 6 (d := ⟨("_law_take", none), "_law_take", "_law_take", defArgs s_l_take, defBody s_l_take, defScope s_l_take, [], []⟩) rfl
  obtain ⟨fd7, F7⟩ := c.def_ 7 (d := ⟨("_law_between", none), "_law_between", "_law_between", defArgs s_l_between, defBody s_l_between, defScope s_l_between, [], []⟩) rfl
  obtain ⟨fd8, F8⟩ := c.def_ 8 (d := ⟨("_law_is_integer", none), "_law_is_integer", "_law_is_integer", defArgs s_l_is_integer, defBody s_l_is_integer, defScope s_l_is_integer, [], []⟩) rfl
  obtain ⟨fd9, F9⟩ := c.def_ 9 (d := ⟨("_law_same", none), "_law_same", "_law_same", defArgs s_l_same, defBody s_l_same, defScope s_l_same, [], []⟩) rfl
  obtain ⟨fd10, F10⟩ := c.def_ 10 (d := ⟨("_law_name", none), "_law_name", "_law_name", defArgs s_l_name, defBody s_l_name, defScope s_l_name, [], []⟩) rfl
  obtain ⟨fd11, F11⟩ := c.def_ 11 (d := ⟨("_law_key", none), "_law_key", "_law_key", defArgs s_l_key, defBody s_l_key, defScope s_l_key, [], []⟩) rfl
  obtain ⟨fd12, F12⟩ := c.def_ 12 (d := ⟨("_law_balanced", none), "_law_balanced", "_law_balanced", defArgs s_l_balanced, defBody s_l_balanced, defScope s_l_balanced, [], []⟩) rfl
  obtain ⟨fd13, F13⟩ := c.def_ 13 (d := ⟨("_law_least_shape", none), "_law_least_shape", "_law_least_shape", defArgs s_l_least_shape, defBody s_l_least_shape, defScope s_l_least_shape, [], []⟩) rfl
  obtain ⟨fd14, F14⟩ := c.def_ 14 (d := ⟨("_law_chain", none), "_law_chain", "_law_chain", defArgs s_l_chain, defBody s_l_chain, defScope s_l_chain, [], []⟩) rfl
  obtain ⟨fd15, F15⟩ := c.def_ 15 (d := ⟨("_law_shape", none), "_law_shape", "_law_shape", defArgs s_l_shape, defBody s_l_shape, defScope s_l_shape, [], []⟩) rfl
  obtain ⟨fd16, F16⟩ := c.def_ 16 (d := ⟨("_law_bent_shape", none), "_law_bent_shape", "_law_bent_shape", defArgs s_l_bent_shape, defBody s_l_bent_shape, defScope s_l_bent_shape, [], []⟩) rfl
  obtain ⟨fd17, F17⟩ := c.def_ 17 (d := ⟨("_law_measured", none), "_law_measured", "_law_measured", defArgs s_l_measured, defBody s_l_measured, defScope s_l_measured, [], []⟩) rfl
  obtain ⟨fd18, F18⟩ := c.def_ 18 (d := ⟨("_law_even", none), "_law_even", "_law_even", defArgs s_l_even, defBody s_l_even, defScope s_l_even, [], []⟩) rfl
  obtain ⟨fd19, F19⟩ := c.def_ 19 (d := ⟨("_law_plain_keys", none), "_law_plain_keys", "_law_plain_keys", defArgs s_l_plain_keys, defBody s_l_plain_keys, defScope s_l_plain_keys, [], []⟩) rfl
  obtain ⟨fd20, F20⟩ := c.def_ 20 (d := ⟨("_law_spine", none), "_law_spine", "_law_spine", defArgs s_l_spine, defBody s_l_spine, defScope s_l_spine, [], []⟩) rfl
  obtain ⟨fd21, F21⟩ := c.def_ 21 (d := ⟨("_law_any_shape", none), "_law_any_shape", "_law_any_shape", defArgs s_l_any_shape, defBody s_l_any_shape, defScope s_l_any_shape, [], []⟩) rfl
  obtain ⟨fd22, F22⟩ := c.def_ 22 (d := ⟨("_law_judged", none), "_law_judged", "_law_judged", defArgs s_l_judged, defBody s_l_judged, defScope s_l_judged, [], []⟩) rfl
  obtain ⟨fd23, F23⟩ := c.def_ 23 (d := ⟨("law", none), "law", "law", defArgs s_law, defBody s_law, defScope s_law, [], []⟩) rfl
  exact ⟨fun i => [fd0, fd1, fd2, fd3, fd4, fd5, fd6, fd7, fd8, fd9, fd10, fd11, fd12, fd13, fd14, fd15, fd16, fd17, fd18, fd19, fd20, fd21, fd22, fd23].getD i fd0, {
    F_is_balanced := F0, g_is_balanced := He.glo_ok X G (c.fact 0 (f := .glo "is_balanced") rfl),
    F_balanced_height := F1, g_balanced_height := He.glo_ok X G (c.fact 1 (f := .glo "balanced_height") rfl),
    F_shape_keys := F2, g_shape_keys := He.glo_ok X G (c.fact 2 (f := .glo "shape_keys") rfl),
    F_collect_keys := F3, g_collect_keys := He.glo_ok X G (c.fact 3 (f := .glo "collect_keys") rfl),
    F_shape_height := F4, g_shape_height := He.glo_ok X G (c.fact 4 (f := .glo "shape_height") rfl),
    F_l_store := F5, g_l_store := He.glo_ok X G (c.fact 5 (f := .glo "_law_store") rfl),
    F_l_take := F6, g_l_take := He.glo_ok X G (c.fact 6 (f := .glo "_law_take") rfl),
    F_l_between := F7, g_l_between := He.glo_ok X G (c.fact 7 (f := .glo "_law_between") rfl),
    F_l_is_integer := F8, g_l_is_integer := He.glo_ok X G (c.fact 8 (f := .glo "_law_is_integer") rfl),
    F_l_same := F9, g_l_same := He.glo_ok X G (c.fact 9 (f := .glo "_law_same") rfl),
    F_l_name := F10, g_l_name := He.glo_ok X G (c.fact 10 (f := .glo "_law_name") rfl),
    F_l_key := F11, g_l_key := He.glo_ok X G (c.fact 11 (f := .glo "_law_key") rfl),
    F_l_balanced := F12, g_l_balanced := He.glo_ok X G (c.fact 12 (f := .glo "_law_balanced") rfl),
    F_l_least_shape := F13, g_l_least_shape := He.glo_ok X G (c.fact 13 (f := .glo "_law_least_shape") rfl),
    F_l_chain := F14, g_l_chain := He.glo_ok X G (c.fact 14 (f := .glo "_law_chain") rfl),
    F_l_shape := F15, g_l_shape := He.glo_ok X G (c.fact 15 (f := .glo "_law_shape") rfl),
    F_l_bent_shape := F16, g_l_bent_shape := He.glo_ok X G (c.fact 16 (f := .glo "_law_bent_shape") rfl),
    F_l_measured := F17, g_l_measured := He.glo_ok X G (c.fact 17 (f := .glo "_law_measured") rfl),
    F_l_even := F18, g_l_even := He.glo_ok X G (c.fact 18 (f := .glo "_law_even") rfl),
    F_l_plain_keys := F19, g_l_plain_keys := He.glo_ok X G (c.fact 19 (f := .glo "_law_plain_keys") rfl),
    F_l_spine := F20, g_l_spine := He.glo_ok X G (c.fact 20 (f := .glo "_law_spine") rfl),
    F_l_any_shape := F21, g_l_any_shape := He.glo_ok X G (c.fact 21 (f := .glo "_law_any_shape") rfl),
    F_l_judged := F22, g_l_judged := He.glo_ok X G (c.fact 22 (f := .glo "_law_judged") rfl),
    F_law := F23, g_law := He.glo_ok X G (c.fact 23 (f := .glo "law") rfl),
    b_abs := He.free_ok X G (c.fact 24 (f := .free "abs") rfl),
    b_bool := He.free_ok X G (c.fact 25 (f := .free "bool") rfl),
    b_dict := He.free_ok X G (c.fact 26 (f := .free "dict") rfl),
    b_int := He.free_ok X G (c.fact 27 (f := .free "int") rfl),
    b_isinstance := He.free_ok X G (c.fact 28 (f := .free "isinstance") rfl),
    b_len := He.free_ok X G (c.fact 29 (f := .free "len") rfl),
    b_list := He.free_ok X G (c.fact 30 (f := .free "list") rfl),
    b_max := He.free_ok X G (c.fact 31 (f := .free "max") rfl),
    b_range := He.free_ok X G (c.fact 32 (f := .free "range") rfl),
    b_str := He.free_ok X G (c.fact 33 (f := .free "str") rfl),
    b_tuple := He.free_ok X G (c.fact 34 (f := .free "tuple") rfl),
  }⟩

end L
open PySem PySem.W PySem.Calls PyProof.Rows L2 J
set_option maxHeartbeats 4000000 in
theorem PySem.Challenge.cw_keptjoined_k16_shapes_judged_holds : PySem.Challenge.rw_keptjoined_k16_shapes_judged.Holds := by
  w_on; o_law
  refine HandSHeadRun.head_any (r := OpenLaw.row PySem.Challenge.rw_keptjoined_k16_shapes_judged) (q := view (OpenLaw.row PySem.Challenge.rw_keptjoined_k16_shapes_judged).prog [25]) (H := L.hdK) (ob := L.hdO) (M := 1960) (loose := L.hdL) (d := HandSHeadRun.topDef (OpenLaw.row PySem.Challenge.rw_keptjoined_k16_shapes_judged).prog 25) (kwd := []) L.hdO_eq
    (by kernel_rfl) (fun s => by kernel_rfl) L.hdRun (by kernel_rfl) (by kernel_rfl) (by kernel_rfl) (by rfl) (by first | assumption | decide +kernel) (by decide +kernel) ⟨rfl, rfl, rfl, rfl, rfl, by decide +kernel⟩ ?hw ?hc
  case hw => w_witness2
  case hc =>
    refine L2.walk_ofE (l := PySem.Challenge.rw_keptjoined_k16_shapes_judged) (n := 63) (k := 66) (x := "_law_script") (CX := L2.CX0) rfl (by decide) (by kernel_rfl) ⟨rfl, by decide, by decide⟩ ?F (fun _ _ _ _ z => z)
    intro w mg fa h Y G hmg0
    obtain ⟨K, KX, c, ce⟩ := Y
    have hmg : mg ("law" : PySem.Str) = some (.ref fa) := by
      have e : (HandSHeadRun.topDef (OpenLaw.row PySem.Challenge.rw_keptjoined_k16_shapes_judged).prog 25).name = ("law" : PySem.Str) := by kernel_rfl
      rw [← e]
      exact hmg0
    obtain ⟨fdv, T⟩ := L.hdTxt KX G c ce
    have e := hmg.symm.trans T.g_law
    cases e
    have b := FunD.bindsA (ps := ["_law_script"]) T.F_law fun _ _ _ _ _ _ us hl => match us, hl with | [_], _ => rfl
    exact ⟨K, fdv 23, J.lowSp K L.sp_law, KX, fun s v => b s [v] rfl, fun H a ns hl _ hS => J.low_start L.start_law H a ns hl hS, fun base _ _ => L.ok_law T⟩
