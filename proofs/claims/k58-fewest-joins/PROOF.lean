import PyProof.Rows.All
import Wide.All
import OpenK.AllK
import Wide.FinOn
import KE.KStateDown
import HandS.ForMost
import HandS.Flow
import HandS.Conv
import HandS.IsInst
import HandS.Wide
import HandS.Style
import HandS.More
import HandS.SortInts
import HandS.HeadHook1
import HandS.Defaults
import HandS.Call
import HandS.List
import HandS.DictEq
import HandS.Rev
import HandS.TupAny
import KE.DataEq
import KE.SortData
import KE.DataMinMax
import PyProof.FString5
import HandS.SortOrd
import HandS.Ends
import HandS.Head0
import HandS.Head1
import HandS.Head2
import HandS.HeadEnd
import HandS.HeadHook2
import HandS.Nested
import HandS.ExcInit
import HandS.ExcInitHot
import HandS.ExcField
import HandS.ExcIs
import HandS.ExcCtx
import HandS.HotCalls
import HandS.ClsMeth
import KE.KSuper
import KE.KExcIs
import HandS.Deep
import HandS.Text
import PyProof.Rows.StrFit
import PyProof.Rows.StrItems
import PyProof.Rows.StrSplitJoin
import HandS.DictComp
import HandS.Property
import HandS.CallSlots
import HandS.NoneIn
import OpenK.KMake
import OpenK.KWalk
import HandS.Iter
import HandS.Star
import HandS.Dict
import PySem.Challenge.RW_keptjoined_k58_fewest_joins
set_option Elab.async false
set_option linter.all false
set_option maxRecDepth 100000
set_option maxHeartbeats 1000000
/-! J1: a second reading, over data: trees of values in place of addresses, and a small map of the objects that change. -/
namespace J
open PySem PySem.Spec PyProof.Rows L2

/-! ### data -/
inductive D where
  | non | bl (b : Bool) | int (i : Int) | str (x : Str) | ty (n : String) | ref (a : Addr)
  | tup (xs : List D) | lst (xs : List D) | rol (xs : List D) | dct (kvs : List (Key × D)) | ins (C : Str) (fs : List (Str × D))

/-- an object that may still change -/
inductive MO where
  | lst (xs : List D) | dct (kvs : List (Key × D)) | ins (C : Str) (fs : List (Str × D))
abbrev Mu := Addr → Option MO
def mup (μ : Mu) (a : Addr) (o : MO) : Mu := fun b => if b = a then some o else μ b
theorem mup_same {μ : Mu} {a : Addr} {o : MO} : mup μ a o a = some o := if_pos rfl
theorem mup_ne {μ : Mu} {a b : Addr} {o : MO} (h : b ≠ a) : mup μ a o b = μ b := if_neg h
theorem mup_mup {μ : Mu} {a : Addr} {o u : MO} : mup (mup μ a o) a u = mup μ a u := by
  funext b; unfold mup; split <;> rfl
theorem mup_self {μ : Mu} {a : Addr} {o : MO} (h : μ a = some o) : mup μ a o = μ := by
  funext b; unfold mup; split
  · next e => rw [e, h]
  · rfl
def mdel (μ : Mu) (a : Addr) : Mu := fun b => if b = a then none else μ b

mutual
inductive Rep (K : PySem.W.Frag) (F : Hp) : V → D → Prop
  | non : Rep K F .non .non
  | bl {b} : Rep K F (.bl b) (.bl b)
  | int {i} : Rep K F (.int i) (.int i)
  | str {x} : Rep K F (.str x) (.str x)
  | ty {n} : Rep K F (.ty n) (.ty n)
  | ref {a} : Rep K F (.ref a) (.ref a)
  | tup {a vs ds} : SqT K F a vs → Reps K F vs ds → Rep K F (.ref a) (.tup ds)
  | lst {a vs ds} : F a = some (.lst vs) → Reps K F vs ds → Rep K F (.ref a) (.lst ds)
  | rol {a vs ds} : SqL K F a vs → Reps K F vs ds → Rep K F (.ref a) (.rol ds)
  | dct {a kvs kds} : F a = some (.dK kvs) → RepK K F kvs kds → Rep K F (.ref a) (.dct kds)
  | ins {a : Addr} {C : Str} {dx : Addr} {fs : List (Str × V)} {fds : List (Str × D)} : F a = some (.ins (He.ga K C) dx fs) → RepF K F fs fds → Rep K F (.ref a) (.ins C fds)
inductive Reps (K : PySem.W.Frag) (F : Hp) : List V → List D → Prop
  | nil : Reps K F [] []
  | cons {v d vs ds} : Rep K F v d → Reps K F vs ds → Reps K F (v :: vs) (d :: ds)
inductive RepK (K : PySem.W.Frag) (F : Hp) : List (Key × V) → List (Key × D) → Prop
  | nil : RepK K F [] []
  | cons {k v d vs ds} : Rep K F v d → RepK K F vs ds → RepK K F ((k, v) :: vs) ((k, d) :: ds)
inductive RepF (K : PySem.W.Frag) (F : Hp) : List (Str × V) → List (Str × D) → Prop
  | nil : RepF K F [] []
  | cons {k v d vs ds} : Rep K F v d → RepF K F vs ds → RepF K F ((k, v) :: vs) ((k, d) :: ds)
end

section
variable {K : PySem.W.Frag} {F F' : Hp}
theorem sqt_mono {a : Addr} {xs : List V} (e : Same F F') (h : SqT K F a xs) : SqT K F' a xs := by
  rcases h with (h | ⟨o, h⟩) | h
  · exact .inl (.inl (e _ _ h))
  · exact .inl (.inr ⟨o, e _ _ h⟩)
  · exact .inr h
mutual
theorem Rep.mono (e : Same F F') {v : V} {d : D} (h : Rep K F v d) : Rep K F' v d := by
  cases h with
  | non => exact .non
  | bl => exact .bl
  | int => exact .int
  | str => exact .str
  | ty => exact .ty
  | ref => exact .ref
  | tup h r => exact .tup (sqt_mono e h) (Reps.mono e r)
  | lst h r => exact .lst (e _ _ h) (Reps.mono e r)
  | rol h r => exact .rol (e.seq h) (Reps.mono e r)
  | dct h r => exact .dct (e _ _ h) (RepK.mono e r)
  | ins h r => exact .ins (e _ _ h) (RepF.mono e r)
theorem Reps.mono (e : Same F F') {v : List V} {d : List D} (h : Reps K F v d) : Reps K F' v d := by
  cases h with
  | nil => exact .nil
  | cons h r => exact .cons (Rep.mono e h) (Reps.mono e r)
theorem RepK.mono (e : Same F F') {v : List (Key × V)} {d : List (Key × D)} (h : RepK K F v d) : RepK K F' v d := by
  cases h with
  | nil => exact .nil
  | cons h r => exact .cons (Rep.mono e h) (RepK.mono e r)
theorem RepF.mono (e : Same F F') {v : List (Str × V)} {d : List (Str × D)} (h : RepF K F v d) : RepF K F' v d := by
  cases h with
  | nil => exact .nil
  | cons h r => exact .cons (Rep.mono e h) (RepF.mono e r)
end
theorem Reps.length : ∀ {vs : List V} {ds : List D}, Reps K F vs ds → vs.length = ds.length
  | _, _, .nil => rfl
  | _, _, .cons _ r => congrArg (· + 1) (Reps.length r)
theorem Reps.get : ∀ {vs : List V} {ds : List D} {i : Nat} {d : D}, Reps K F vs ds → ds[i]? = some d → ∃ v, vs[i]? = some v ∧ Rep K F v d
  | _, _, _, _, .nil, e => by simp at e
  | _, _, 0, _, .cons r _, e => by simp at e; subst e; exact ⟨_, rfl, r⟩
  | _, _, i + 1, d, .cons _ t, e => by
    obtain ⟨u, h1, h2⟩ := Reps.get (i := i) (d := d) t (by simpa using e)
    exact ⟨u, by simpa using h1, h2⟩
theorem Reps.append : ∀ {vs ws : List V} {ds es : List D}, Reps K F vs ds → Reps K F ws es → Reps K F (vs ++ ws) (ds ++ es)
  | _, _, _, _, .nil, s => s
  | _, _, _, _, .cons r t, s => .cons r (Reps.append t s)
theorem Reps.set {v : V} {d : D} (r : Rep K F v d) : ∀ {vs : List V} {ds : List D} (i : Nat), Reps K F vs ds → Reps K F (vs.set i v) (ds.set i d)
  | _, _, _, .nil => .nil
  | _, _, 0, .cons _ t => .cons r t
  | _, _, i + 1, .cons q t => .cons q (Reps.set r i t)
theorem Reps.take : ∀ {vs : List V} {ds : List D} (n : Nat), Reps K F vs ds → Reps K F (vs.take n) (ds.take n)
  | _, _, 0, _ => .nil
  | _, _, _ + 1, .nil => .nil
  | _, _, n + 1, .cons r t => .cons r (Reps.take n t)
theorem Reps.drop : ∀ {vs : List V} {ds : List D} (n : Nat), Reps K F vs ds → Reps K F (vs.drop n) (ds.drop n)
  | _, _, 0, r => r
  | _, _, _ + 1, .nil => .nil
  | _, _, n + 1, .cons _ t => Reps.drop n t
theorem Reps.dropLast {vs : List V} {ds : List D} (h : Reps K F vs ds) : Reps K F vs.dropLast ds.dropLast := by
  rw [List.dropLast_eq_take, List.dropLast_eq_take, h.length]
  exact h.take _
theorem Reps.reverse : ∀ {vs : List V} {ds : List D}, Reps K F vs ds → Reps K F vs.reverse ds.reverse
  | _, _, .nil => .nil
  | _, _, .cons r t => by
    rw [List.reverse_cons, List.reverse_cons]
    exact (Reps.reverse t).append (.cons r .nil)
theorem Reps.ints : ∀ {vs : List V} {ns : List Int}, Reps K F vs (ns.map D.int) → vs = ns.map V.int
  | _, [], .nil => rfl
  | _, n :: ns, .cons r t => by
    cases r
    rw [Reps.ints t]; rfl
theorem Reps.strs : ∀ {vs : List V} {ns : List Str}, Reps K F vs (ns.map D.str) → vs = ns.map V.str
  | _, [], .nil => rfl
  | _, n :: ns, .cons r t => by
    cases r
    rw [Reps.strs t]; rfl
theorem Reps.bls : ∀ {vs : List V} {ns : List Bool}, Reps K F vs (ns.map D.bl) → vs = ns.map V.bl
  | _, [], .nil => rfl
  | _, n :: ns, .cons r t => by
    cases r
    rw [Reps.bls t]; rfl
theorem Reps.of_ints : ∀ (ns : List Int), Reps K F (ns.map V.int) (ns.map D.int)
  | [] => .nil
  | _ :: ns => .cons .int (Reps.of_ints ns)
theorem Reps.of_strs : ∀ (ns : List Str), Reps K F (ns.map V.str) (ns.map D.str)
  | [] => .nil
  | _ :: ns => .cons .str (Reps.of_strs ns)
end

/-! ### the world: what is settled (F), what stands (H), what may change (μ) -/
inductive RepM (K : PySem.W.Frag) (F : Hp) : HO → MO → Prop
  | lst {vs ds} : Reps K F vs ds → RepM K F (.lst vs) (.lst ds)
  | dct {vs ds} : RepK K F vs ds → RepM K F (.dK vs) (.dct ds)
  | ins {C : Str} {dx : Addr} {vs : List (Str × V)} {ds : List (Str × D)} : RepF K F vs ds → RepM K F (.ins (He.ga K C) dx vs) (.ins C ds)
theorem RepM.mono {K : PySem.W.Frag} {F F' : Hp} (e : Same F F') {v : HO} {d : MO} (h : RepM K F v d) : RepM K F' v d := by
  cases h with
  | lst r => exact .lst (r.mono e)
  | dct r => exact .dct (r.mono e)
  | ins r => exact .ins (r.mono e)
structure Wd (K : PySem.W.Frag) (F H : Hp) (μ : Mu) : Prop where
  sub : Same F H
  mts : ∀ a o, μ a = some o → F a = none ∧ ∃ ho, H a = some ho ∧ RepM K F ho o
structure Gr (F H : Hp) (μ : Mu) (F' H' : Hp) (μ' : Mu) : Prop where
  ff : Same F F'
  fr : ∀ b o, H b = some o → F b = none → μ b = none → H' b = some o ∧ F' b = none ∧ μ' b = none
theorem Gr.refl {F H : Hp} {μ : Mu} : Gr F H μ F H μ := ⟨Same.refl _, fun _ _ a b c => ⟨a, b, c⟩⟩
theorem Gr.trans {F H F1 H1 F2 H2 : Hp} {μ μ1 μ2 : Mu} (a : Gr F H μ F1 H1 μ1) (b : Gr F1 H1 μ1 F2 H2 μ2) : Gr F H μ F2 H2 μ2 :=
  ⟨a.ff.trans b.ff, fun x o h1 h2 h3 => by obtain ⟨p, q, r⟩ := a.fr x o h1 h2 h3; exact b.fr x o p q r⟩
abbrev Sg := List (Option D)
abbrev Sv := L2.St
def RepO (K : PySem.W.Frag) (F : Hp) : Option V → Option D → Prop
  | some v, some d => Rep K F v d
  | _, none => True
  | none, some _ => False
abbrev RepE (K : PySem.W.Frag) (F : Hp) : Sv → Sg → Prop := Paired (RepO K F)
theorem RepE.mono {K : PySem.W.Frag} {F F' : Hp} (e : Same F F') {σ : Sv} {δ : Sg} (h : RepE K F σ δ) : RepE K F' σ δ :=
  Paired.mapP h fun a b r => by
    cases a <;> cases b <;> first | exact Rep.mono e r | exact r
theorem RepE.get {K : PySem.W.Frag} {F : Hp} : ∀ {σ : Sv} {δ : Sg} {i : Nat} {d : D}, RepE K F σ δ → δ[i]? = some (some d) → ∃ v, σ[i]? = some (some v) ∧ Rep K F v d
  | _, _, _, _, .nil, e => by simp at e
  | (some v) :: _, _, 0, d, .cons r _, e => by
    simp at e
    subst e
    exact ⟨v, rfl, r⟩
  | none :: _, _, 0, d, .cons r _, e => by
    simp at e
    subst e
    exact r.elim
  | _, _, i + 1, d, .cons _ t, e => by
    obtain ⟨u, h1, h2⟩ := RepE.get (i := i) (d := d) t (by simpa using e)
    exact ⟨u, by simpa using h1, h2⟩
theorem RepE.set {K : PySem.W.Frag} {F : Hp} {v : V} {d : D} (r : Rep K F v d) : ∀ {σ : Sv} {δ : Sg} (i : Nat), RepE K F σ δ → RepE K F (σ.set i (some v)) (δ.set i (some d))
  | _, _, _, .nil => .nil
  | _, _, 0, .cons _ t => .cons r t
  | _, _, i + 1, .cons q t => .cons q (RepE.set r i t)
theorem RepE.wipe1 {K : PySem.W.Frag} {F : Hp} : ∀ {σ : Sv} {δ : Sg} (i : Nat), RepE K F σ δ → RepE K F (σ.set i none) (δ.set i none)
  | _, _, _, .nil => .nil
  | _, _, 0, .cons _ t => .cons trivial t
  | _, _, i + 1, .cons q t => .cons q (RepE.wipe1 i t)
/-- what is carried along: a wish of the world that every growth keeps (the wish of exceptions) -/
structure Zw where
  p : Hp → Hp → Mu → Prop
  up : ∀ {F H μ F' H' μ'}, p F H μ → Gr F H μ F' H' μ' → p F' H' μ'
def Z0 : Zw := ⟨fun _ _ _ => True, fun _ _ => trivial⟩
structure Mt (K : PySem.W.Frag) (Z : Zw) (F : Hp) (σ : Sv) (H : Hp) (δ : Sg) (μ : Mu) : Prop where
  wd : Wd K F H μ
  env : RepE K F σ δ
  z : Z.p F H μ
theorem Mt.step {K : PySem.W.Frag} {Z : Zw} {F H F' H' : Hp} {σ : Sv} {δ : Sg} {μ μ' : Mu} (m : Mt K Z F σ H δ μ) (g : Gr F H μ F' H' μ') (w : Wd K F' H' μ') : Mt K Z F' σ H' δ μ' :=
  ⟨w, m.env.mono g.ff, Z.up m.z g⟩

/-! ### small moves of the world -/
section
variable {K : PySem.W.Frag} {F H : Hp} {μ : Mu}
/-- a new settled object -/
theorem Wd.settle {p : Addr} {o : HO} (w : Wd K F H μ) (hp : H p = none) : Wd K (upd F p o) (upd H p o) μ ∧ Gr F H μ (upd F p o) (upd H p o) μ ∧ F p = none := by
  have fp : F p = none := by
    cases h : F p with
    | none => rfl
    | some u => rw [w.sub p u h] at hp; cases hp
  have ff : Same F (upd F p o) := fun b u e => by rw [upd_ne (ne_of_none e fp)]; exact e
  refine ⟨⟨fun b u e => ?_, fun a u e => ?_⟩, ⟨ff, fun b u h1 h2 h3 => ?_⟩, fp⟩
  · by_cases hb : b = p
    · subst hb; rw [upd_same] at e ⊢; exact e
    · rw [upd_ne hb] at e ⊢; exact w.sub b u e
  · obtain ⟨h1, ho, h2, h3⟩ := w.mts a u e
    have ha : a ≠ p := ne_of_none h2 hp
    exact ⟨by rw [upd_ne ha]; exact h1, ho, by rw [upd_ne ha]; exact h2, h3.mono ff⟩
  · have hb : b ≠ p := ne_of_none h1 hp
    exact ⟨by rw [upd_ne hb]; exact h1, by rw [upd_ne hb]; exact h2, h3⟩
/-- a new object that may change -/
theorem Wd.fresh {p : Addr} {o : HO} {m : MO} (w : Wd K F H μ) (hp : H p = none) (r : RepM K F o m) : Wd K F (upd H p o) (mup μ p m) ∧ Gr F H μ F (upd H p o) (mup μ p m) ∧ μ p = none := by
  have fp : F p = none := by
    cases h : F p with
    | none => rfl
    | some u => rw [w.sub p u h] at hp; cases hp
  have mp : μ p = none := by
    cases h : μ p with
    | none => rfl
    | some u =>
      obtain ⟨_, ho, h2, _⟩ := w.mts p u h
      rw [h2] at hp; cases hp
  refine ⟨⟨fun b u e => ?_, fun a u e => ?_⟩, ⟨Same.refl _, fun b u h1 h2 h3 => ?_⟩, mp⟩
  · have hb : b ≠ p := ne_of_none e fp
    rw [upd_ne hb]; exact w.sub b u e
  · by_cases ha : a = p
    · subst ha
      rw [mup_same] at e; cases e
      exact ⟨fp, o, upd_same, r⟩
    · rw [mup_ne ha] at e
      obtain ⟨h1, ho, h2, h3⟩ := w.mts a u e
      exact ⟨h1, ho, by rw [upd_ne ha]; exact h2, h3⟩
  · have hb : b ≠ p := ne_of_none h1 hp
    exact ⟨by rw [upd_ne hb]; exact h1, h2, by rw [mup_ne hb]; exact h3⟩
/-- an object changed -/
theorem Wd.write {p : Addr} {o : HO} {m m0 : MO} (w : Wd K F H μ) (hm : μ p = some m0) (r : RepM K F o m) : Wd K F (upd H p o) (mup μ p m) ∧ Gr F H μ F (upd H p o) (mup μ p m) := by
  obtain ⟨fp, _, _, _⟩ := w.mts p m0 hm
  refine ⟨⟨fun b u e => ?_, fun a u e => ?_⟩, ⟨Same.refl _, fun b u h1 h2 h3 => ?_⟩⟩
  · have hb : b ≠ p := ne_of_none e fp
    rw [upd_ne hb]; exact w.sub b u e
  · by_cases ha : a = p
    · subst ha
      rw [mup_same] at e; cases e
      exact ⟨fp, o, upd_same, r⟩
    · rw [mup_ne ha] at e
      obtain ⟨h1, ho, h2, h3⟩ := w.mts a u e
      exact ⟨h1, ho, by rw [upd_ne ha]; exact h2, h3⟩
  · have hb : b ≠ p := fun z => by rw [z, hm] at h3; cases h3
    exact ⟨by rw [upd_ne hb]; exact h1, h2, by rw [mup_ne hb]; exact h3⟩
end
end J

namespace J
open PySem PySem.Spec PyProof.Rows L2

/-! ### readings over data -/
abbrev QE := D → Mu → Prop
abbrev TE2 := Sg → Mu → QE → Prop
abbrev TT2 := Sg → Mu → (Bool → Mu → Prop) → Prop
abbrev TA2 := Sg → Mu → (List D → Mu → Prop) → Prop
structure Ends2 where
  nx : Sg → Mu → Prop
  rt : QE
  bk : Sg → Mu → Prop := fun _ _ => False
  ct : Sg → Mu → Prop := fun _ _ => False
abbrev TS2 := Ends2 → Sg → Mu → Prop
/-- an operation on values -/
abbrev O1 := D → Mu → QE → Prop
abbrev O2 := D → D → Mu → QE → Prop
abbrev OA := List D → Mu → QE → Prop
abbrev OM := D → List D → Mu → QE → Prop

section
variable (K : PySem.W.Frag) (Z : Zw)
def lowE (t : TE2) : TE := fun σ H Q => ∃ F δ μ Q0, Mt K Z F σ H δ μ ∧ t δ μ Q0 ∧ ∀ d μ' F' H' v, Q0 d μ' → Gr F H μ F' H' μ' → Wd K F' H' μ' → Rep K F' v d → Q v H'
def lowT (t : TT2) : TT := fun σ H Q => ∃ F δ μ Q0, Mt K Z F σ H δ μ ∧ t δ μ Q0 ∧ ∀ b μ' F' H', Q0 b μ' → Gr F H μ F' H' μ' → Wd K F' H' μ' → Q b H'
def lowA (t : TA2) : TA := fun σ H Q => ∃ F δ μ Q0, Mt K Z F σ H δ μ ∧ t δ μ Q0 ∧ ∀ ds μ' F' H' vs, Q0 ds μ' → Gr F H μ F' H' μ' → Wd K F' H' μ' → Reps K F' vs ds → Q vs H'
/-- the ends of statements -/
structure EI (F H : Hp) (μ : Mu) (D2 : Ends2) (D : Ends) : Prop where
  nx : ∀ δ' μ' F' σ' H', D2.nx δ' μ' → Gr F H μ F' H' μ' → Mt K Z F' σ' H' δ' μ' → D.nx σ' H'
  rt : ∀ d μ' F' H' v, D2.rt d μ' → Gr F H μ F' H' μ' → Wd K F' H' μ' → Rep K F' v d → D.rt v H'
  bk : ∀ δ' μ' F' σ' H', D2.bk δ' μ' → Gr F H μ F' H' μ' → Mt K Z F' σ' H' δ' μ' → D.bk σ' H'
  ct : ∀ δ' μ' F' σ' H', D2.ct δ' μ' → Gr F H μ F' H' μ' → Mt K Z F' σ' H' δ' μ' → D.ct σ' H'
def lowS (t : TS2) : TS := fun D σ H => ∃ F δ μ D2, Mt K Z F σ H δ μ ∧ t D2 δ μ ∧ EI K Z F H μ D2 D
/-- an operation's: the values as they lie -/
def lowO1 (r : O1) : V → Hp → VK → Prop := fun x H Q => ∃ F μ d Q0, Wd K F H μ ∧ Rep K F x d ∧ r d μ Q0 ∧ ∀ d' μ' F' H' v, Q0 d' μ' → Gr F H μ F' H' μ' → Wd K F' H' μ' → Rep K F' v d' → Q v H'
def lowO2 (r : O2) : R2 := fun x y H Q => ∃ F μ d e Q0, Wd K F H μ ∧ Rep K F x d ∧ Rep K F y e ∧ r d e μ Q0 ∧ ∀ d' μ' F' H' v, Q0 d' μ' → Gr F H μ F' H' μ' → Wd K F' H' μ' → Rep K F' v d' → Q v H'
def lowOA (r : OA) : List V → Hp → VK → Prop := fun xs H Q => ∃ F μ ds Q0, Wd K F H μ ∧ Reps K F xs ds ∧ r ds μ Q0 ∧ ∀ d' μ' F' H' v, Q0 d' μ' → Gr F H μ F' H' μ' → Wd K F' H' μ' → Rep K F' v d' → Q v H'
def lowOM (r : OM) : V → List V → Hp → VK → Prop := fun x xs H Q => ∃ F μ d ds Q0, Wd K F H μ ∧ Rep K F x d ∧ Reps K F xs ds ∧ r d ds μ Q0 ∧ ∀ d' μ' F' H' v, Q0 d' μ' → Gr F H μ F' H' μ' → Wd K F' H' μ' → Rep K F' v d' → Q v H'
end
theorem EI.step {K : PySem.W.Frag} {Z : Zw} {F H F1 H1 : Hp} {μ μ1 : Mu} {D2 : Ends2} {D : Ends} (e : EI K Z F H μ D2 D) (g : Gr F H μ F1 H1 μ1) : EI K Z F1 H1 μ1 D2 D :=
  ⟨fun δ' μ' F' σ' H' h g' m => e.nx δ' μ' F' σ' H' h (g.trans g') m, fun d μ' F' H' v h g' w r => e.rt d μ' F' H' v h (g.trans g') w r,
   fun δ' μ' F' σ' H' h g' m => e.bk δ' μ' F' σ' H' h (g.trans g') m, fun δ' μ' F' σ' H' h g' m => e.ct δ' μ' F' σ' H' h (g.trans g') m⟩

/-! ### weaker readings -/
section
variable {X : Cx}
theorem pe_imp {e : Expr} {t t' : TE} (h : PE X e t) (i : ∀ σ H Q, t' σ H Q → t σ H Q) : PE X e t' := ⟨fun pins s σ H Q I q => h.run pins s σ H Q I (i _ _ _ q)⟩
theorem pt_imp {e : Expr} {t t' : TT} (h : PT X e t) (i : ∀ σ H Q, t' σ H Q → t σ H Q) : PT X e t' := ⟨fun pins s σ H Q I q => h.run pins s σ H Q I (i _ _ _ q)⟩
theorem pw_imp {e : Expr} {t t' : TT} (h : PW X e t) (i : ∀ σ H Q, t' σ H Q → t σ H Q) : PW X e t' := ⟨fun wh pins s σ H Q I q => h.run wh pins s σ H Q I (i _ _ _ q)⟩
theorem pa_imp {e : List Expr} {t t' : TA} (h : PA X e t) (i : ∀ σ H Q, t' σ H Q → t σ H Q) : PA X e t' := ⟨fun pos pins s σ H Q I q => h.run pos pins s σ H Q I (i _ _ _ q)⟩
theorem ps_imp {e : Stmt} {t t' : TS} (h : PS X e t) (i : ∀ D σ H, t' D σ H → t D σ H) : PS X e t' := ⟨fun pins s σ H D I q => h.run pins s σ H D I (i _ _ _ q)⟩
theorem pss_imp {e : List Stmt} {t t' : TS} (h : PSs X e t) (i : ∀ D σ H, t' D σ H → t D σ H) : PSs X e t' := ⟨fun pins s σ H D I q => h.run pins s σ H D I (i _ _ _ q)⟩
theorem pg_imp {e : Expr} {t t' : TG} (h : PG X e t) (i : ∀ v σ H Q, t' v σ H Q → t v σ H Q) : PG X e t' := ⟨fun pins s σ H v u Q I r q => h.run pins s σ H v u Q I r (i _ _ _ _ q)⟩
end

section
variable {X : Cx} {Z : Zw}
abbrev E2 (X : Cx) (Z : Zw) (e : Expr) (t : TE2) : Prop := PE X e (lowE X.K Z t)
abbrev T2 (X : Cx) (Z : Zw) (e : Expr) (t : TT2) : Prop := PT X e (lowT X.K Z t)
abbrev W2 (X : Cx) (Z : Zw) (e : Expr) (t : TT2) : Prop := PW X e (lowT X.K Z t)
abbrev A2 (X : Cx) (Z : Zw) (e : List Expr) (t : TA2) : Prop := PA X e (lowA X.K Z t)
abbrev S2 (X : Cx) (Z : Zw) (e : Stmt) (t : TS2) : Prop := PS X e (lowS X.K Z t)
abbrev B2 (X : Cx) (Z : Zw) (e : List Stmt) (t : TS2) : Prop := PSs X e (lowS X.K Z t)

/-! ### names, constants -/
def jVar (i : Nat) : TE2 := fun δ μ Q => ∃ d, δ[i]? = some (some d) ∧ Q d μ
def jC (d : D) : TE2 := fun _ μ Q => Q d μ
theorem jv (i : Nat) {x : Str} {pos : Pos} (hN : X.N[i]? = some x := by rfl) (hv : Vis X.env.scope x := by first | exact Or.inl rfl | exact Or.inr (Or.inl rfl) | exact Or.inr (Or.inr rfl)) (hd : (x == ("__debug__" : Str)) = false := by decide)
    (hcd : (x == ("__classdict__" : Str)) = false := by decide) : E2 X Z (.Name x pos) (jVar i) := by
  refine pe_imp (pe_var hN hv hd hcd) ?_
  rintro σ H Q ⟨F, δ, μ, Q0, m, ⟨d, e, q⟩, k⟩
  obtain ⟨v, e1, r⟩ := m.env.get e
  exact ⟨v, e1, k d μ F H v q .refl m.wd r⟩
theorem jc_of {e : Expr} {v : V} {d : D} (h : PE X e (tC v)) (r : ∀ F, Rep X.K F v d) : E2 X Z e (jC d) := by
  refine pe_imp h ?_
  rintro σ H Q ⟨F, δ, μ, Q0, m, q, k⟩
  exact k d μ F H v q .refl m.wd (r F)
theorem jint {i j pos} : E2 X Z (.Constant (.int i) j pos) (jC (.int i)) := jc_of pe_int fun _ => .int
theorem jbl {i j pos} : E2 X Z (.Constant (.bool i) j pos) (jC (.bl i)) := jc_of pe_bl fun _ => .bl
theorem jnon {j pos} : E2 X Z (.Constant .none j pos) (jC .non) := jc_of pe_non fun _ => .non
theorem jstr {x j pos} : E2 X Z (.Constant (.str x) j pos) (jC (.str x)) := jc_of pe_str fun _ => .str
theorem jglob {x : Str} {v : V} {d : D} {u : Value} {pos : Pos} (hg : Gl X x) (hm : X.mg x = some u) (r : RelV v u) (r2 : ∀ F, Rep X.K F v d) (hd : (x == ("__debug__" : Str)) = false := by decide) : E2 X Z (.Name x pos) (jC d) := jc_of (pe_glob hg hm r hd) r2
theorem jbltn {x : Str} {n : String} {pos : Pos} (hg : Gl X x) (hm : X.mg x = none) (hv : bootBuiltins x = some (.type n)) (hn : x ≠ "__name__" := by decide) (hd : (x == ("__debug__" : Str)) = false := by decide) : E2 X Z (.Name x pos) (jC (.ty n)) :=
  jc_of (pe_bltn (v := .ty n) hg hm hv rfl hn hd) fun _ => .ty

/-! ### operators -/
def jOp (r : O2) (ta tb : TE2) : TE2 := fun δ μ Q => ta δ μ fun x μ1 => tb δ μ1 fun y μ2 => r x y μ2 Q
def jUn (r : O1) (ta : TE2) : TE2 := fun δ μ Q => ta δ μ fun x μ1 => r x μ1 Q
theorem low_op {K : PySem.W.Frag} {r : O2} {ta tb : TE2} {σ : Sv} {H : Hp} {Q : VK} (h : lowE K Z (jOp r ta tb) σ H Q) : lowE K Z ta σ H fun x H1 => lowE K Z tb σ H1 fun y H2 => lowO2 K r x y H2 Q := by
  obtain ⟨F, δ, μ, Q0, m, q, k⟩ := h
  refine ⟨F, δ, μ, _, m, q, ?_⟩
  intro x μ1 F1 H1 v q1 g1 w1 r1
  refine ⟨F1, δ, μ1, _, m.step g1 w1, q1, ?_⟩
  intro y μ2 F2 H2 u q2 g2 w2 r2
  refine ⟨F2, μ2, x, y, Q0, w2, r1.mono g2.ff, r2, q2, ?_⟩
  intro z μ3 F3 H3 v3 q3 g3 w3 r3
  exact k z μ3 F3 H3 v3 q3 ((g1.trans g2).trans g3) w3 r3
theorem low_un {K : PySem.W.Frag} {r : O1} {ta : TE2} {σ : Sv} {H : Hp} {Q : VK} (h : lowE K Z (jUn r ta) σ H Q) : lowE K Z ta σ H fun x H1 => lowO1 K r x H1 Q := by
  obtain ⟨F, δ, μ, Q0, m, q, k⟩ := h
  refine ⟨F, δ, μ, _, m, q, ?_⟩
  intro x μ1 F1 H1 v q1 g1 w1 r1
  refine ⟨F1, μ1, x, Q0, w1, r1, q1, ?_⟩
  intro z μ3 F3 H3 v3 q3 g3 w3 r3
  exact k z μ3 F3 H3 v3 q3 (g1.trans g3) w3 r3
theorem jop {a b : Expr} {op : Operator} {pos : Pos} {r : O2} {ta tb : TE2} (ho : OpR X (binaryOp op) (lowO2 X.K r)) (ha : E2 X Z a ta) (hb : E2 X Z b tb) : E2 X Z (.BinOp a op b pos) (jOp r ta tb) :=
  pe_imp (pe_op ho ha hb) fun _ _ _ h => low_op h
theorem jun {a : Expr} {op : UnaryOp} {pos : Pos} {r : O1} {ta : TE2} (ho : UnR X (unaryOp op) (lowO1 X.K r)) (ha : E2 X Z a ta) : E2 X Z (.UnaryOp op a pos) (jUn r ta) :=
  pe_imp (pe_un ho ha) fun _ _ _ h => low_un h
/-- comparisons: as values, as tests -/
def jTest (t : TE2) : TT2 := fun δ μ Q => t δ μ fun x μ1 => ∃ k, x = .bl k ∧ Q k μ1
theorem low_test {K : PySem.W.Frag} {t : TE2} {σ : Sv} {H : Hp} {Q : Bool → Hp → Prop} (h : lowT K Z (jTest t) σ H Q) : lowE K Z t σ H fun x H' => ∃ k, x = .bl k ∧ Q k H' := by
  obtain ⟨F, δ, μ, Q0, m, q, k⟩ := h
  refine ⟨F, δ, μ, _, m, q, ?_⟩
  rintro x μ1 F1 H1 v ⟨b, rfl, q1⟩ g1 w1 r1
  cases r1
  exact ⟨b, rfl, k b μ1 F1 H1 q1 g1 w1⟩
theorem jcmp {a b : Expr} {op : CmpOp} {pos : Pos} {r : O2} {ta tb : TE2} (ho : OpR X (compareOp op) (lowO2 X.K r)) (ha : E2 X Z a ta) (hb : E2 X Z b tb) (hm : behindInMarks op b = false) : E2 X Z (.Compare a [op] [b] pos) (jOp r ta tb) :=
  pe_imp (pe_cmpR ho ha hb hm) fun _ _ _ h => low_op h
theorem jtcmp {a b : Expr} {op : CmpOp} {pos : Pos} {r : O2} {ta tb : TE2} (ho : OpR X (compareOp op) (lowO2 X.K r)) (ha : E2 X Z a ta) (hb : E2 X Z b tb) (hm : behindInMarks op b = false) : T2 X Z (.Compare a [op] [b] pos) (jTest (jOp r ta tb)) :=
  pt_imp (pt_cmpR ho ha hb hm) fun _ _ _ h => low_op (low_test h)
/-- a value that is a bool, as a test -/
theorem jtval {e : Expr} {t : TE2} (h : E2 X Z e t) (he : ∀ whole, isTrue e X.env whole = (do let v ← whole; standAt e.pos; holding [v] (truthy v)) := by intro _; rfl) : T2 X Z e (jTest t) :=
  pt_imp (pt_val h he) fun _ _ _ q => low_test q
/-- a < b < c -/
def jChain (r r' : O2) (ta tb tc : TE2) : TE2 := fun δ μ Q => ta δ μ fun x μ1 => tb δ μ1 fun y μ2 => r x y μ2 fun z μ3 => ∃ k, z = .bl k ∧ (if k = true then tc δ μ3 fun w μ4 => r' y w μ4 Q else Q (.bl false) μ3)
theorem low_chain {K : PySem.W.Frag} {r r' : O2} {ta tb tc : TE2} {σ : Sv} {H : Hp} {Q : VK} (h : lowE K Z (jChain r r' ta tb tc) σ H Q) : tChain (lowO2 K r) (lowO2 K r') (lowE K Z ta) (lowE K Z tb) (lowE K Z tc) σ H Q := by
  obtain ⟨F, δ, μ, Q0, m, q, k⟩ := h
  refine ⟨F, δ, μ, _, m, q, ?_⟩
  intro x μ1 F1 H1 v q1 g1 w1 r1
  refine ⟨F1, δ, μ1, _, m.step g1 w1, q1, ?_⟩
  intro y μ2 F2 H2 u q2 g2 w2 r2
  refine ⟨F2, μ2, x, y, _, w2, r1.mono g2.ff, r2, q2, ?_⟩
  rintro z μ3 F3 H3 v3 ⟨b, rfl, q3⟩ g3 w3 r3
  cases r3
  refine ⟨b, rfl, ?_⟩
  have m3 := (m.step g1 w1).step (g2.trans g3) w3
  cases b with
  | true =>
    rw [if_pos rfl] at q3 ⊢
    refine ⟨F3, δ, μ3, _, m3, q3, ?_⟩
    intro z4 μ4 F4 H4 v4 q4 g4 w4 r4
    refine ⟨F4, μ4, y, z4, _, w4, (r2.mono g3.ff).mono g4.ff, r4, q4, ?_⟩
    intro z5 μ5 F5 H5 v5 q5 g5 w5 r5
    exact k z5 μ5 F5 H5 v5 q5 ((((g1.trans g2).trans g3).trans g4).trans g5) w5 r5
  | false =>
    rw [if_neg Bool.false_ne_true] at q3 ⊢
    exact k _ μ3 F3 H3 _ q3 ((g1.trans g2).trans g3) w3 .bl

theorem jchain {a b c : Expr} {op op' : CmpOp} {pos : Pos} {r r' : O2} {ta tb tc : TE2} (ho : OpR X (compareOp op) (lowO2 X.K r)) (ho' : OpR X (compareOp op') (lowO2 X.K r')) (ha : E2 X Z a ta) (hb : E2 X Z b tb) (hc : E2 X Z c tc)
    (hm : lastMarks [op, op'] [b, c] = false := by with_unfolding_all rfl) : E2 X Z (.Compare a [op, op'] [b, c] pos) (jChain r r' ta tb tc) := pe_imp (pe_chain ho ho' ha hb hc hm) fun _ _ _ h => low_chain h
theorem jtchain {a b c : Expr} {op op' : CmpOp} {pos : Pos} {r r' : O2} {ta tb tc : TE2} (ho : OpR X (compareOp op) (lowO2 X.K r)) (ho' : OpR X (compareOp op') (lowO2 X.K r')) (ha : E2 X Z a ta) (hb : E2 X Z b tb) (hc : E2 X Z c tc)
    (hm : lastMarks [op, op'] [b, c] = false := by with_unfolding_all rfl) : T2 X Z (.Compare a [op, op'] [b, c] pos) (jTest (jChain r r' ta tb tc)) := pt_imp (pt_chain ho ho' ha hb hc hm) fun _ _ _ h => low_chain (low_test h)

/-! ### and, or, not, if .. else -/
def jAnd (t u : TT2) : TT2 := fun δ μ Q => t δ μ fun c μ1 => if c = true then u δ μ1 Q else Q false μ1
def jOr (t u : TT2) : TT2 := fun δ μ Q => t δ μ fun c μ1 => if c = true then Q true μ1 else u δ μ1 Q
def jNot (t : TT2) : TT2 := fun δ μ Q => t δ μ fun c μ1 => Q (!c) μ1
theorem jw1 {op : BoolOp} {a : Expr} {pos : Pos} {t : TT2} (h : PW X (.BoolOp op [a] pos) (lowT X.K Z t)) : W2 X Z (.BoolOp op [a] pos) t := h
theorem jwand {a b : Expr} {rest : List Expr} {pos : Pos} {t u : TT2} (ha : T2 X Z a t) (hb : W2 X Z (.BoolOp .And (b :: rest) pos) u) : W2 X Z (.BoolOp .And (a :: b :: rest) pos) (jAnd t u) := by
  refine pw_imp (pw_and ha hb) ?_
  rintro σ H Q ⟨F, δ, μ, Q0, m, q, k⟩
  refine ⟨F, δ, μ, _, m, q, ?_⟩
  rintro b μ1 F1 H1 q1 g1 w1
  cases b with
  | true =>
    rw [if_pos rfl] at q1 ⊢
    exact ⟨F1, δ, μ1, Q0, m.step g1 w1, q1, fun b μ2 F2 H2 q2 g2 w2 => k b μ2 F2 H2 q2 (g1.trans g2) w2⟩
  | false =>
    rw [if_neg Bool.false_ne_true] at q1 ⊢
    exact k false μ1 F1 H1 q1 g1 w1
theorem jwor {a b : Expr} {rest : List Expr} {pos : Pos} {t u : TT2} (ha : T2 X Z a t) (hb : W2 X Z (.BoolOp .Or (b :: rest) pos) u) : W2 X Z (.BoolOp .Or (a :: b :: rest) pos) (jOr t u) := by
  refine pw_imp (pw_or ha hb) ?_
  rintro σ H Q ⟨F, δ, μ, Q0, m, q, k⟩
  refine ⟨F, δ, μ, _, m, q, ?_⟩
  rintro b μ1 F1 H1 q1 g1 w1
  cases b with
  | true =>
    rw [if_pos rfl] at q1 ⊢
    exact k true μ1 F1 H1 q1 g1 w1
  | false =>
    rw [if_neg Bool.false_ne_true] at q1 ⊢
    exact ⟨F1, δ, μ1, Q0, m.step g1 w1, q1, fun b μ2 F2 H2 q2 g2 w2 => k b μ2 F2 H2 q2 (g1.trans g2) w2⟩
theorem jtnot {a : Expr} {pos : Pos} {t : TT2} (ha : T2 X Z a t) : T2 X Z (.UnaryOp .Not a pos) (jNot t) := by
  refine pt_imp (pt_not ha) ?_
  rintro σ H Q ⟨F, δ, μ, Q0, m, q, k⟩
  exact ⟨F, δ, μ, _, m, q, fun b μ1 F1 H1 q1 g1 w1 => k (!b) μ1 F1 H1 q1 g1 w1⟩
/-- as values, of bools -/
def jAndV (ta tb : TE2) : TE2 := fun δ μ Q => ta δ μ fun x μ1 => ∃ c, x = .bl c ∧ if c = true then tb δ μ1 Q else Q (.bl false) μ1
def jOrV (ta tb : TE2) : TE2 := fun δ μ Q => ta δ μ fun x μ1 => ∃ c, x = .bl c ∧ if c = true then Q (.bl true) μ1 else tb δ μ1 Q
def jNotV (ta : TE2) : TE2 := fun δ μ Q => ta δ μ fun x μ1 => ∃ c, x = .bl c ∧ Q (.bl (!c)) μ1
theorem jone {op : BoolOp} {a : Expr} {pos : Pos} {t : TE2} (h : E2 X Z a t) : E2 X Z (.BoolOp op [a] pos) t := pe_one h
theorem jand {a b : Expr} {rest : List Expr} {pos : Pos} {ta tb : TE2} (ha : E2 X Z a ta) (hb : E2 X Z (.BoolOp .And (b :: rest) pos) tb) : E2 X Z (.BoolOp .And (a :: b :: rest) pos) (jAndV ta tb) := by
  refine pe_imp (pe_and ha hb) ?_
  rintro σ H Q ⟨F, δ, μ, Q0, m, q, k⟩
  refine ⟨F, δ, μ, _, m, q, ?_⟩
  rintro x μ1 F1 H1 v ⟨b, rfl, q1⟩ g1 w1 r1
  cases r1
  refine ⟨b, rfl, ?_⟩
  cases b with
  | true =>
    rw [if_pos rfl] at q1 ⊢
    exact ⟨F1, δ, μ1, Q0, m.step g1 w1, q1, fun d μ2 F2 H2 v2 q2 g2 w2 r2 => k d μ2 F2 H2 v2 q2 (g1.trans g2) w2 r2⟩
  | false =>
    rw [if_neg Bool.false_ne_true] at q1 ⊢
    exact k _ μ1 F1 H1 _ q1 g1 w1 .bl
theorem jor {a b : Expr} {rest : List Expr} {pos : Pos} {ta tb : TE2} (ha : E2 X Z a ta) (hb : E2 X Z (.BoolOp .Or (b :: rest) pos) tb) : E2 X Z (.BoolOp .Or (a :: b :: rest) pos) (jOrV ta tb) := by
  refine pe_imp (pe_or ha hb) ?_
  rintro σ H Q ⟨F, δ, μ, Q0, m, q, k⟩
  refine ⟨F, δ, μ, _, m, q, ?_⟩
  rintro x μ1 F1 H1 v ⟨b, rfl, q1⟩ g1 w1 r1
  cases r1
  refine ⟨b, rfl, ?_⟩
  cases b with
  | true =>
    rw [if_pos rfl] at q1 ⊢
    exact k _ μ1 F1 H1 _ q1 g1 w1 .bl
  | false =>
    rw [if_neg Bool.false_ne_true] at q1 ⊢
    exact ⟨F1, δ, μ1, Q0, m.step g1 w1, q1, fun d μ2 F2 H2 v2 q2 g2 w2 r2 => k d μ2 F2 H2 v2 q2 (g1.trans g2) w2 r2⟩
theorem jnot {a : Expr} {pos : Pos} {ta : TE2} (ha : E2 X Z a ta) : E2 X Z (.UnaryOp .Not a pos) (jNotV ta) := by
  refine pe_imp (pe_not ha) ?_
  rintro σ H Q ⟨F, δ, μ, Q0, m, q, k⟩
  refine ⟨F, δ, μ, _, m, q, ?_⟩
  rintro x μ1 F1 H1 v ⟨b, rfl, q1⟩ g1 w1 r1
  cases r1
  exact ⟨b, rfl, k _ μ1 F1 H1 _ q1 g1 w1 .bl⟩
def jIf (t : TT2) (ta tb : TE2) : TE2 := fun δ μ Q => t δ μ fun c μ1 => if c = true then ta δ μ1 Q else tb δ μ1 Q
theorem jife {c a b : Expr} {pos : Pos} {t : TT2} {ta tb : TE2} (hc : T2 X Z c t) (ha : E2 X Z a ta) (hb : E2 X Z b tb) : E2 X Z (.IfExp c a b pos) (jIf t ta tb) := by
  refine pe_imp (pe_ifExp hc ha hb) ?_
  rintro σ H Q ⟨F, δ, μ, Q0, m, q, k⟩
  refine ⟨F, δ, μ, _, m, q, ?_⟩
  rintro b μ1 F1 H1 q1 g1 w1
  cases b with
  | true =>
    rw [if_pos rfl] at q1 ⊢
    exact ⟨F1, δ, μ1, Q0, m.step g1 w1, q1, fun d μ2 F2 H2 v2 q2 g2 w2 r2 => k d μ2 F2 H2 v2 q2 (g1.trans g2) w2 r2⟩
  | false =>
    rw [if_neg Bool.false_ne_true] at q1 ⊢
    exact ⟨F1, δ, μ1, Q0, m.step g1 w1, q1, fun d μ2 F2 H2 v2 q2 g2 w2 r2 => k d μ2 F2 H2 v2 q2 (g1.trans g2) w2 r2⟩

/-! ### argument lists and displays -/
def jNil : TA2 := fun _ μ Q => Q [] μ
def jCons (ta : TE2) (tr : TA2) : TA2 := fun δ μ Q => ta δ μ fun x μ1 => tr δ μ1 fun xs μ2 => Q (x :: xs) μ2
theorem ja0 : A2 X Z [] jNil := by
  refine pa_imp pa_nil ?_
  rintro σ H Q ⟨F, δ, μ, Q0, m, q, k⟩
  exact k [] μ F H [] q .refl m.wd .nil
theorem ja {e : Expr} {es : List Expr} {te : TE2} {t : TA2} (ha : E2 X Z e te) (hr : A2 X Z es t) (hs : starEach (e :: es) X.env = (false, eval e X.env) :: starEach es X.env := by rfl) : A2 X Z (e :: es) (jCons te t) := by
  refine pa_imp (pa_cons ha hr hs) ?_
  rintro σ H Q ⟨F, δ, μ, Q0, m, q, k⟩
  refine ⟨F, δ, μ, _, m, q, ?_⟩
  intro x μ1 F1 H1 v q1 g1 w1 r1
  refine ⟨F1, δ, μ1, _, m.step g1 w1, q1, ?_⟩
  intro xs μ2 F2 H2 vs q2 g2 w2 r2
  exact k (x :: xs) μ2 F2 H2 (v :: vs) q2 (g1.trans g2) w2 (.cons (r1.mono g2.ff) r2)
/-- a new list: settled, or one that may change -/
def NewL (xs : List D) (μ : Mu) (Q : QE) : Prop := Q (.lst xs) μ ∨ ∀ p, μ p = none → Q (.ref p) (mup μ p (.lst xs))
/-- a new dict -/
def NewD (xs : List (Key × D)) (μ : Mu) (Q : QE) : Prop := Q (.dct xs) μ ∨ ∀ p, μ p = none → Q (.ref p) (mup μ p (.dct xs))
theorem newL_ok {K : PySem.W.Frag} {F H : Hp} {μ : Mu} {xs : List D} {vs : List V} {Q0 : QE} {Q : VK} {p : Addr} (w : Wd K F H μ) (hp : H p = none) (r : Reps K F vs xs) (n : NewL xs μ Q0)
    (k : ∀ d μ' F' H' v, Q0 d μ' → Gr F H μ F' H' μ' → Wd K F' H' μ' → Rep K F' v d → Q v H') : Q (.ref p) (upd H p (.lst vs)) := by
  rcases n with n | n
  · obtain ⟨w1, g1, fp⟩ := w.settle (o := .lst vs) hp
    exact k _ μ _ _ _ n g1 w1 (.lst upd_same (r.mono g1.ff))
  · obtain ⟨w1, g1, mp⟩ := w.fresh hp (.lst r)
    exact k _ _ _ _ _ (n p mp) g1 w1 .ref
theorem newD_ok {K : PySem.W.Frag} {F H : Hp} {μ : Mu} {xs : List (Key × D)} {vs : List (Key × V)} {Q0 : QE} {Q : VK} {p : Addr} (w : Wd K F H μ) (hp : H p = none) (r : RepK K F vs xs) (n : NewD xs μ Q0)
    (k : ∀ d μ' F' H' v, Q0 d μ' → Gr F H μ F' H' μ' → Wd K F' H' μ' → Rep K F' v d → Q v H') : Q (.ref p) (upd H p (.dK vs)) := by
  rcases n with n | n
  · obtain ⟨w1, g1, fp⟩ := w.settle (o := .dK vs) hp
    exact k _ μ _ _ _ n g1 w1 (.dct upd_same (r.mono g1.ff))
  · obtain ⟨w1, g1, mp⟩ := w.fresh hp (.dct r)
    exact k _ _ _ _ _ (n p mp) g1 w1 .ref
theorem newT_ok {K : PySem.W.Frag} {F H : Hp} {μ : Mu} {xs : List D} {vs : List V} {Q0 : QE} {Q : VK} {p : Addr} (w : Wd K F H μ) (hp : H p = none) (r : Reps K F vs xs) (n : Q0 (.tup xs) μ)
    (k : ∀ d μ' F' H' v, Q0 d μ' → Gr F H μ F' H' μ' → Wd K F' H' μ' → Rep K F' v d → Q v H') : Q (.ref p) (upd H p (.tup vs)) := by
  obtain ⟨w1, g1, fp⟩ := w.settle (o := .tup vs) hp
  exact k _ μ _ _ _ n g1 w1 (.tup (SqT.of upd_same) (r.mono g1.ff))
def jTup (t : TA2) : TE2 := fun δ μ Q => t δ μ fun xs μ1 => xs.length ≤ sizeLine ∧ Q (.tup xs) μ1
def jLst (t : TA2) : TE2 := fun δ μ Q => t δ μ fun xs μ1 => xs.length ≤ sizeLine ∧ NewL xs μ1 Q
theorem jtup {es : List Expr} {pos : Pos} {x1} {t : TA2} (h : A2 X Z es t) : E2 X Z (.Tuple es x1 pos) (jTup t) := by
  refine pe_imp (pe_tup h) ?_
  rintro σ H Q ⟨F, δ, μ, Q0, m, q, k⟩
  refine ⟨F, δ, μ, _, m, q, ?_⟩
  rintro xs μ1 F1 H1 vs ⟨hl, q1⟩ g1 w1 r1
  refine ⟨by rw [r1.length]; exact hl, fun p hp => ?_⟩
  exact newT_ok w1 hp r1 q1 fun d μ' F' H' v q' g' w' r' => k d μ' F' H' v q' (g1.trans g') w' r'
theorem jlst {es : List Expr} {pos : Pos} {t : TA2} (h : A2 X Z es t) : E2 X Z (.List es pos) (jLst t) := by
  refine pe_imp (pe_lst h) ?_
  rintro σ H Q ⟨F, δ, μ, Q0, m, q, k⟩
  refine ⟨F, δ, μ, _, m, q, ?_⟩
  rintro xs μ1 F1 H1 vs ⟨hl, q1⟩ g1 w1 r1
  refine ⟨by rw [r1.length]; exact hl, fun p hp => ?_⟩
  exact newL_ok w1 hp r1 q1 fun d μ' F' H' v q' g' w' r' => k d μ' F' H' v q' (g1.trans g') w' r'

/-! ### calls of built-ins, subscripts, methods of built-in types -/
def jCB (r : OA) (t : TA2) : TE2 := fun δ μ Q => t δ μ fun ds μ1 => r ds μ1 Q
theorem low_cb {K : PySem.W.Frag} {r : OA} {t : TA2} {σ : Sv} {H : Hp} {Q : VK} (h : lowE K Z (jCB r t) σ H Q) : lowA K Z t σ H fun xs H1 => lowOA K r xs H1 Q := by
  obtain ⟨F, δ, μ, Q0, m, q, k⟩ := h
  refine ⟨F, δ, μ, _, m, q, ?_⟩
  intro xs μ1 F1 H1 vs q1 g1 w1 r1
  exact ⟨F1, μ1, xs, Q0, w1, r1, q1, fun d μ' F' H' v q' g' w' r' => k d μ' F' H' v q' (g1.trans g') w' r'⟩
theorem jcallB {x : Str} {id : String} {r : OA} {e : Expr} {es : List Expr} {t : TA2} {p pos : Pos} (hc : CallR X (.builtin id) (lowOA X.K r)) (hg : Gl X x) (hm : X.mg x = none) (hv : bootBuiltins x = some (.builtin id)) (ha : A2 X Z (e :: es) t)
    (h : PE X (.Call (.Name x p) (e :: es) [] pos) (tCB (lowOA X.K r) (lowA X.K Z t))) : E2 X Z (.Call (.Name x p) (e :: es) [] pos) (jCB r t) := pe_imp h fun _ _ _ q => low_cb q
theorem jix {a b : Expr} {pos : Pos} {r : O2} {ta tb : TE2} (hr : IxR X (lowO2 X.K r)) (ha : E2 X Z a ta) (hb : E2 X Z b tb) (hs : PlainIx b) : E2 X Z (.Subscript a b pos) (jOp r ta tb) :=
  pe_imp (pe_ix hr ha hb hs) fun _ _ _ h => low_op h
def jIf0 : Bool := true

/-! ### statements -/
def jNext : TS2 := fun D δ μ => D.nx δ μ
def jSeq (t u : TS2) : TS2 := fun D δ μ => t { D with nx := u D } δ μ
theorem jb0 : B2 X Z [] jNext := by
  refine pss_imp pss_nil ?_
  rintro D σ H ⟨F, δ, μ, D2, m, q, e⟩
  exact e.nx δ μ F σ H q .refl m
theorem jb {st : Stmt} {rest : List Stmt} {t u : TS2} (h1 : S2 X Z st t) (h2 : B2 X Z rest u) : B2 X Z (st :: rest) (jSeq t u) := by
  refine pss_imp (pss_cons h1 h2) ?_
  rintro D σ H ⟨F, δ, μ, D2, m, q, e⟩
  refine ⟨F, δ, μ, _, m, q, ?_, e.rt, e.bk, e.ct⟩
  intro δ' μ' F' σ' H' q' g' m'
  exact ⟨F', δ', μ', D2, m', q', e.step g'⟩
theorem jb1 {st : Stmt} {t : TS2} (h1 : S2 X Z st t) : B2 X Z [st] t := pss_one h1
def jBreak : TS2 := fun D δ μ => D.bk δ μ
def jCont : TS2 := fun D δ μ => D.ct δ μ
theorem js_pass {pos : Pos} : S2 X Z (.Pass pos) jNext := by
  refine ps_imp ps_pass ?_
  rintro D σ H ⟨F, δ, μ, D2, m, q, e⟩
  exact e.nx δ μ F σ H q .refl m
theorem js_break {pos : Pos} : S2 X Z (.Break pos) jBreak := by
  refine ps_imp ps_break ?_
  rintro D σ H ⟨F, δ, μ, D2, m, q, e⟩
  exact e.bk δ μ F σ H q .refl m
theorem js_cont {pos : Pos} : S2 X Z (.Continue pos) jCont := by
  refine ps_imp ps_continue ?_
  rintro D σ H ⟨F, δ, μ, D2, m, q, e⟩
  exact e.ct δ μ F σ H q .refl m
def jDrop (t : TE2) : TS2 := fun D δ μ => t δ μ fun _ μ1 => D.nx δ μ1
theorem js_expr {e : Expr} {pos : Pos} {t : TE2} (he : E2 X Z e t) (hs : swapsWith e none pos.line X.env = pure false := by rfl) : S2 X Z (.Expr e pos) (jDrop t) := by
  refine ps_imp (ps_expr he hs) ?_
  rintro D σ H ⟨F, δ, μ, D2, m, q, e⟩
  exact ⟨F, δ, μ, _, m, q, fun d μ' F' H' v q' g' w' r' => e.nx δ μ' F' σ H' q' g' (m.step g' w')⟩
def jRet (t : TE2) : TS2 := fun D δ μ => t δ μ D.rt
theorem js_ret {e : Expr} {pos : Pos} {t : TE2} (he : E2 X Z e t) : S2 X Z (.Return (some e) pos) (jRet t) := by
  refine ps_imp (ps_ret he) ?_
  rintro D σ H ⟨F, δ, μ, D2, m, q, e⟩
  exact ⟨F, δ, μ, _, m, q, fun d μ' F' H' v q' g' w' r' => e.rt d μ' F' H' v q' g' w' r'⟩
def jRetN : TS2 := fun D _ μ => D.rt .non μ
theorem js_retN {pos : Pos} : S2 X Z (.Return none pos) jRetN := by
  refine ps_imp ps_retN ?_
  rintro D σ H ⟨F, δ, μ, D2, m, q, e⟩
  exact e.rt .non μ F H .non q .refl m.wd .non
def jIfS (c : TT2) (t u : TS2) : TS2 := fun D δ μ => c δ μ fun b μ1 => if b = true then t D δ μ1 else u D δ μ1
theorem js_if {c : Expr} {a b : List Stmt} {pos : Pos} {tc : TT2} {t u : TS2} (hc : T2 X Z c tc) (ha : B2 X Z a t) (hb : B2 X Z b u) : S2 X Z (.If c a b pos) (jIfS tc t u) := by
  refine ps_imp (ps_if hc ha hb) ?_
  rintro D σ H ⟨F, δ, μ, D2, m, q, e⟩
  refine ⟨F, δ, μ, _, m, q, ?_⟩
  rintro b μ1 F1 H1 q1 g1 w1
  cases b with
  | true =>
    rw [if_pos rfl] at q1 ⊢
    exact ⟨F1, δ, μ1, D2, m.step g1 w1, q1, e.step g1⟩
  | false =>
    rw [if_neg Bool.false_ne_true] at q1 ⊢
    exact ⟨F1, δ, μ1, D2, m.step g1 w1, q1, e.step g1⟩
/-- code that is never reached -/
def jNever : TS2 := fun _ _ _ => False
theorem js_never {st : Stmt} : S2 X Z st jNever := ps_imp ps_never fun _ _ _ ⟨_, _, _, _, _, q, _⟩ => q.elim

/-! ### targets -/
abbrev TG2 := D → Sg → Mu → (Sg → Mu → Prop) → Prop
abbrev TGs2 := List D → Sg → Mu → (Sg → Mu → Prop) → Prop
def lowG (K : PySem.W.Frag) (Z : Zw) (t : TG2) : TG := fun v σ H Q => ∃ F δ μ d Q0, Mt K Z F σ H δ μ ∧ Rep K F v d ∧ t d δ μ Q0 ∧ ∀ δ' μ' F' σ' H', Q0 δ' μ' → Gr F H μ F' H' μ' → Mt K Z F' σ' H' δ' μ' → Q σ' H'
def lowGs (K : PySem.W.Frag) (Z : Zw) (t : TGs2) : TGs := fun vs σ H Q => ∃ F δ μ ds Q0, Mt K Z F σ H δ μ ∧ Reps K F vs ds ∧ t ds δ μ Q0 ∧ ∀ δ' μ' F' σ' H', Q0 δ' μ' → Gr F H μ F' H' μ' → Mt K Z F' σ' H' δ' μ' → Q σ' H'
abbrev G2 (X : Cx) (Z : Zw) (e : Expr) (t : TG2) : Prop := PG X e (lowG X.K Z t)
def kName (i : Nat) : TG2 := fun d δ μ Q => Q (δ.set i (some d)) μ
theorem kg {i : Nat} {x : Str} {pos : Pos} (hN : X.N.Nodup) (hi : X.N[i]? = some x) (hx : Loc X.env.scope x) (hf : X.fn x = true ∨ X.env.scope.names.lookup x = some .local := by first | exact .inl rfl | exact .inr rfl | assumption) : G2 X Z (.Name x pos) (kName i) := by
  refine pg_imp (pg_name hN hi hx hf) ?_
  rintro v σ H Q ⟨F, δ, μ, d, Q0, m, r, q, k⟩
  exact k _ μ F _ H q .refl ⟨m.wd, m.env.set r i, m.z⟩
def jAsg (t : TE2) (g : TG2) : TS2 := fun D δ μ => t δ μ fun d μ1 => g d δ μ1 D.nx
theorem low_asg {K : PySem.W.Frag} {t : TE2} {g : TG2} {D : Ends} {σ : Sv} {H : Hp} (h : lowS K Z (jAsg t g) D σ H) : tAsg (lowE K Z t) (lowG K Z g) D σ H := by
  obtain ⟨F, δ, μ, D2, m, q, e⟩ := h
  refine ⟨F, δ, μ, _, m, q, ?_⟩
  intro d μ1 F1 H1 v q1 g1 w1 r1
  refine ⟨F1, δ, μ1, d, _, m.step g1 w1, r1, q1, ?_⟩
  intro δ' μ' F' σ' H' q' g' m'
  exact e.nx δ' μ' F' σ' H' q' (g1.trans g') m'
theorem js_asg {tg e : Expr} {pos : Pos} {t : TE2} {g : TG2} (he : E2 X Z e t) (hg : G2 X Z tg g) (hs : swapsWithSole [tg] e pos.line X.env = pure false := by rfl) (hw : swappedStores [tg] e X.env = pure none := by rfl)
    (h1 : (assignEach [tg] X.env).map (·.2) = [assign tg X.env] := by rfl) : S2 X Z (.Assign [tg] e pos) (jAsg t g) := ps_imp (ps_asg he hg hs hw h1) fun _ _ _ q => low_asg q
theorem js_set {i : Nat} {x : Str} {e : Expr} {t : TE2} {pos pos' : Pos} (hN : X.N.Nodup) (hi : X.N[i]? = some x) (hx : Loc X.env.scope x) (he : E2 X Z e t) (hs : swapsWith e (some (.Name x pos')) pos.line X.env = pure false := by rfl) (hf : X.fn x = true ∨ X.env.scope.names.lookup x = some .local := by first | exact .inl rfl | exact .inr rfl | assumption) :
    S2 X Z (.Assign [.Name x pos'] e pos) (jAsg t (kName i)) := by
  refine ps_imp (ps_set hN hi hx he hs hf) ?_
  rintro D σ H ⟨F, δ, μ, D2, m, q, e⟩
  refine ⟨F, δ, μ, _, m, q, ?_⟩
  intro d μ1 F1 H1 v q1 g1 w1 r1
  have m1 := m.step g1 w1
  exact e.nx _ μ1 F1 _ H1 q1 g1 ⟨w1, m1.env.set r1 i, m1.z⟩
/-- (a, b, ..) = a tuple -/
def kNil : TGs2 := fun ds δ μ Q => ds = [] ∧ Q δ μ
def kCons (t : TG2) (u : TGs2) : TGs2 := fun ds δ μ Q => ∃ d r, ds = d :: r ∧ t d δ μ fun δ' μ' => u r δ' μ' Q
def kTup (n : Nat) (t : TGs2) : TG2 := fun d δ μ Q => ∃ xs, d = .tup xs ∧ xs.length = n ∧ t xs δ μ Q
theorem kg0 : PGs X [] (lowGs X.K Z kNil) := ⟨fun pins s σ H vs us Q I r h => by
  obtain ⟨F, δ, μ, ds, Q0, m, r2, ⟨e, q⟩, k⟩ := h
  subst e
  cases r2
  exact (pgs_nil (X := X)).run pins s σ H [] us Q I r ⟨rfl, k δ μ F σ H q .refl m⟩⟩
theorem kgs {e : Expr} {es : List Expr} {t : TG2} {u : TGs2} (h1 : G2 X Z e t) (h2 : PGs X es (lowGs X.K Z u)) (hs : (assignEach (e :: es) X.env).map (·.2) = assign e X.env :: (assignEach es X.env).map (·.2) := by rfl) : PGs X (e :: es) (lowGs X.K Z (kCons t u)) :=
  ⟨fun pins s σ H vs us Q I r h => by
    obtain ⟨F, δ, μ, ds, Q0, m, r2, ⟨d, rr, e1, q⟩, k⟩ := h
    subst e1
    cases r2 with
    | cons ra rb =>
      refine (pgs_cons h1 h2 hs).run pins s σ H _ us Q I r ⟨_, _, rfl, F, δ, μ, d, _, m, ra, q, ?_⟩
      intro δ' μ' F' σ' H' q' g' m'
      exact ⟨F', δ', μ', rr, Q0, m', rb.mono g'.ff, q', fun δ2 μ2 F2 σ2 H2 q2 g2 m2 => k δ2 μ2 F2 σ2 H2 q2 (g'.trans g2) m2⟩⟩
theorem kgtup {es : List Expr} {k : Nat} {t : TGs2} {n : Nat} {pos : Pos} (hc : X.calm = true) (h : PGs X es (lowGs X.K Z t))
    (hn : (assignEach es X.env).length = n := by rfl) (hst : (assignEach es X.env).findIdx? (·.1) = none := by rfl) : G2 X Z (.Tuple es k pos) (kTup n t) := by
  refine pg_imp (pg_tup hc h hn hst) ?_
  rintro v σ H Q ⟨F, δ, μ, d, Q0, m, r, ⟨xs, rfl, hl, q⟩, k⟩
  cases r with
  | tup hq rs =>
    refine ⟨_, _, rfl, sqt_mono m.wd.sub hq, by rw [rs.length]; exact hl, F, δ, μ, xs, Q0, m, rs, q, k⟩
end
end J

namespace J
open PySem PySem.Spec PyProof.Rows L2

/-! ### a step of the proof's own: what may change becomes settled -/
def Upd (Q : QE) : QE := fun d μ => ∀ (K : PySem.W.Frag) F H v, Wd K F H μ → Rep K F v d → ∃ F' d' μ', Gr F H μ F' H μ' ∧ Wd K F' H μ' ∧ Rep K F' v d' ∧ Q d' μ'
theorem Upd.of {Q : QE} {d : D} {μ : Mu} (q : Q d μ) : Upd Q d μ := fun _ F _ _ w r => ⟨F, d, μ, .refl, w, r, q⟩
theorem Upd.imp {Q Q' : QE} {d : D} {μ : Mu} (q : Upd Q d μ) (h : ∀ d μ, Q d μ → Q' d μ) : Upd Q' d μ := fun K F H v w r => by
  obtain ⟨F', d', μ', g, w', r', q'⟩ := q K F H v w r
  exact ⟨F', d', μ', g, w', r', h _ _ q'⟩
theorem Upd.join {Q : QE} {d : D} {μ : Mu} (q : Upd (Upd Q) d μ) : Upd Q d μ := fun K F H v w r => by
  obtain ⟨F', d', μ', g, w', r', q'⟩ := q K F H v w r
  obtain ⟨F2, d2, μ2, g2, w2, r2, q2⟩ := q' K F' H v w' r'
  exact ⟨F2, d2, μ2, g.trans g2, w2, r2, q2⟩
def Le (μ' μ : Mu) : Prop := ∀ a o, μ' a = some o → μ a = some o
theorem Le.refl {μ : Mu} : Le μ μ := fun _ _ h => h
theorem Wd.drop {K : PySem.W.Frag} {F H : Hp} {μ μ' : Mu} (w : Wd K F H μ) (l : Le μ' μ) : Wd K F H μ' ∧ Gr F H μ F H μ' := by
  refine ⟨⟨w.sub, fun a o e => w.mts a o (l a o e)⟩, ⟨Same.refl _, fun b o h1 h2 h3 => ⟨h1, h2, ?_⟩⟩⟩
  cases e : μ' b with
  | none => rfl
  | some u => rw [l b u e] at h3; cases h3
theorem Upd.drop {Q : QE} {d : D} {μ μ' : Mu} (l : Le μ' μ) (q : Q d μ') : Upd Q d μ := fun K F H v w r => by
  obtain ⟨w', g⟩ := w.drop l
  exact ⟨F, d, μ', g, w', r, q⟩
theorem mdel_mup {μ : Mu} {p : Addr} {o : MO} (h : μ p = none) : mdel (mup μ p o) p = μ := by
  funext b
  unfold mdel mup
  split
  · next e => rw [e, h]
  · rfl
theorem Wd.freeze {K : PySem.W.Frag} {F H : Hp} {μ : Mu} {p : Addr} {o : HO} {m : MO} (w : Wd K F H μ) (hm : μ p = some m) (ho : H p = some o) : Wd K (upd F p o) H (mdel μ p) ∧ Gr F H μ (upd F p o) H (mdel μ p) := by
  obtain ⟨fp, _⟩ := w.mts p m hm
  have ff : Same F (upd F p o) := fun b u e => by rw [upd_ne (ne_of_none e fp)]; exact e
  refine ⟨⟨fun b u e => ?_, fun a u e => ?_⟩, ⟨ff, fun b u h1 h2 h3 => ?_⟩⟩
  · by_cases hb : b = p
    · subst hb; rw [upd_same] at e; rw [ho]; exact e
    · rw [upd_ne hb] at e; exact w.sub b u e
  · unfold mdel at e
    split at e
    · cases e
    · next ha =>
      obtain ⟨h1, ho', h2, h3⟩ := w.mts a u e
      exact ⟨by rw [upd_ne ha]; exact h1, ho', h2, h3.mono ff⟩
  · have hb : b ≠ p := fun z => by rw [z, hm] at h3; cases h3
    exact ⟨h1, by rw [upd_ne hb]; exact h2, by unfold mdel; rw [if_neg hb]; exact h3⟩
theorem Upd.lst {Q : QE} {p : Addr} {μ : Mu} {xs : List D} (h : μ p = some (.lst xs)) (q : Q (.lst xs) (mdel μ p)) : Upd Q (.ref p) μ := fun K F H v w r => by
  cases r
  obtain ⟨fp, ho, h1, h2⟩ := w.mts p _ h
  cases h2 with
  | lst rs =>
    obtain ⟨w', g⟩ := w.freeze h h1
    exact ⟨_, _, _, g, w', .lst upd_same (rs.mono g.ff), q⟩
theorem Upd.dct {Q : QE} {p : Addr} {μ : Mu} {xs : List (Key × D)} (h : μ p = some (.dct xs)) (q : Q (.dct xs) (mdel μ p)) : Upd Q (.ref p) μ := fun K F H v w r => by
  cases r
  obtain ⟨fp, ho, h1, h2⟩ := w.mts p _ h
  cases h2 with
  | dct rs =>
    obtain ⟨w', g⟩ := w.freeze h h1
    exact ⟨_, _, _, g, w', .dct upd_same (rs.mono g.ff), q⟩
theorem Upd.ins {Q : QE} {p : Addr} {C : Str} {μ : Mu} {fs : List (Str × D)} (h : μ p = some (.ins C fs)) (q : Q (.ins C fs) (mdel μ p)) : Upd Q (.ref p) μ := fun K F H v w r => by
  cases r
  obtain ⟨fp, ho, h1, h2⟩ := w.mts p _ h
  cases h2 with
  | ins rs =>
    obtain ⟨w', g⟩ := w.freeze h h1
    exact ⟨_, _, _, g, w', .ins upd_same (rs.mono g.ff), q⟩

/-! ### promises -/
/-- an exception's class (by its name), its attributes, what may change behind it -/
abbrev Ex2 := Str → List (Str × D) → Mu → Prop
abbrev Sp2 := List D → Mu → QE → Ex2 → Prop
def noEx : Ex2 := fun _ _ _ => False
/-- dx is no object that stood untold -/
def NewX (F H : Hp) (μ : Mu) (dx : Addr) : Prop := ∀ o, H dx = some o → F dx = none → μ dx = none → False
theorem NewX.of {F H F' H' : Hp} {μ μ' : Mu} {dx : Addr} (g : Gr F H μ F' H' μ') (n : NewX F' H' μ' dx) : NewX F H μ dx := fun o h1 h2 h3 => by
  obtain ⟨a, b, c⟩ := g.fr dx o h1 h2 h3
  exact n o a b c
def ZE (K : PySem.W.Frag) (ex : Ex2) (E : XK) : Hp → Hp → Mu → Prop := fun F H μ => ∀ C fs μ' F' H' dx vs, ex C fs μ' → Gr F H μ F' H' μ' → Wd K F' H' μ' → H' dx = some (.xd vs) → F' dx = none → NewX F H μ dx → RepF K F' vs fs → E (.ref (He.ga K C)) (some dx) H'
def ZEw (K : PySem.W.Frag) (ex : Ex2) (E : XK) : Zw := ⟨ZE K ex E, fun h g => fun C fs μ' F' H' dx vs e g' w' hd hf n r => h C fs μ' F' H' dx vs e (g.trans g') w' hd hf (n.of g) r⟩
theorem ZE.none {K : PySem.W.Frag} {E : XK} {F H : Hp} {μ : Mu} : ZE K noEx E F H μ := fun _ _ _ _ _ _ _ h => h.elim
def lowSp (K : PySem.W.Frag) (sp : Sp2) : Sp := fun vs H Q E => ∃ F μ ds Q0 ex, Wd K F H μ ∧ Reps K F vs ds ∧ sp ds μ Q0 ex ∧ (∀ d μ' F' H' v, Q0 d μ' → Gr F H μ F' H' μ' → Wd K F' H' μ' → Rep K F' v d → Q v H') ∧ ZE K ex E F H μ
section
variable {X : Cx} {Z : Zw} {CX : CXT} {k : Nat} {f C : Addr} {fd : FuncData} {ps : List Str} {sp : Sp2} {dvs : List V} {dds : List D} {ds : List Value} {E : XK} {ex : Ex2} {x m : Str} {p pos apos : Pos} {e o : Expr} {es : List Expr} {ta : TE2} {t : TA2}
def jCall (sp : Sp2) (dds : List D) (ex : Ex2) (t : TA2) : TE2 := fun δ μ Q => t δ μ fun ds μ1 => sp (ds ++ dds) μ1 (Upd Q) ex
theorem low_call {K : PySem.W.Frag} {σ : Sv} {H : Hp} {Q : VK} (hdd : ∀ F, Reps K F dvs dds) (hz : ∀ F H μ, Z.p F H μ → ZE K ex E F H μ) (h : lowE K Z (jCall sp dds ex t) σ H Q) : tCall (lowSp K sp) dvs E (lowA K Z t) σ H Q := by
  obtain ⟨F, δ, μ, Q0, m, q, k⟩ := h
  refine ⟨F, δ, μ, _, m, q, ?_⟩
  intro as μ1 F1 H1 vs q1 g1 w1 r1
  refine ⟨F1, μ1, as ++ dds, _, ex, w1, r1.append (hdd F1), q1, ?_, hz _ _ _ (Z.up m.z g1)⟩
  intro d μ2 F2 H2 v q2 g2 w2 r2
  obtain ⟨F3, d3, μ3, g3, w3, r3, q3⟩ := q2 K F2 H2 v w2 r2
  exact k d3 μ3 F3 H2 v q3 ((g1.trans g2).trans g3) w3 r3
/-- f(e, ..) -/
theorem jcall (F : FnOk X.prog X.w X.K X.mg X.base CX k f fd ps (lowSp X.K sp)) (hr : Room k X.A) (hg : Gl X x) (hm : X.mg x = some (.ref f)) (hk : PySem.W.keepIn X.K (.ref f) = true) (hb : Binds X.K fd ps ds) (hd : Vals dvs ds) (hdd : ∀ F, Reps X.K F dvs dds)
    (hx : Passes CX X E) (hz : ∀ F H μ, Z.p F H μ → ZE X.K ex E F H μ) (ha : A2 X Z (e :: es) t) (hdb : (x == ("__debug__" : Str)) = false := by decide) (he : starEach (e :: es) X.env = (false, eval e X.env) :: starEach es X.env := by rfl) (hpl : (backTo pos (starEach es X.env)).any (·.1) = false := by rfl) :
    E2 X Z (.Call (.Name x p) (e :: es) [] pos) (jCall sp dds ex t) := pe_imp (pe_call F hr hg hm hk hb hd hx ha hdb he hpl) fun _ _ _ h => low_call hdd hz h
/-- f() -/
theorem jcall0 (F : FnOk X.prog X.w X.K X.mg X.base CX k f fd ps (lowSp X.K sp)) (hr : Room k X.A) (hg : Gl X x) (hm : X.mg x = some (.ref f)) (hk : PySem.W.keepIn X.K (.ref f) = true) (hb : Binds X.K fd ps ds) (hd : Vals dvs ds) (hdd : ∀ F, Reps X.K F dvs dds)
    (hx : Passes CX X E) (hz : ∀ F H μ, Z.p F H μ → ZE X.K ex E F H μ) (hdb : (x == ("__debug__" : Str)) = false := by decide) : E2 X Z (.Call (.Name x p) [] [] pos) (jCall sp dds ex jNil) := by
  refine pe_imp (pe_call0 F hr hg hm hk hb hd hx hdb) fun σ H Q h => ?_
  obtain ⟨F, δ, μ, Q0, m, q, k⟩ := h
  refine ⟨F, μ, dds, _, ex, m.wd, hdd F, q, ?_, hz _ _ _ m.z⟩
  intro d μ2 F2 H2 v q2 g2 w2 r2
  obtain ⟨F3, d3, μ3, g3, w3, r3, q3⟩ := q2 X.K F2 H2 v w2 r2
  exact k d3 μ3 F3 H2 v q3 (g2.trans g3) w3 r3

/-! ### instances -/
def IsIns (x : D) (C : Str) (fs : List (Str × D)) (μ : Mu) : Prop := x = .ins C fs ∨ ∃ a, x = .ref a ∧ μ a = some (.ins C fs)
theorem RepF.look {K : PySem.W.Frag} {F : Hp} (n : Str) : ∀ {fs : List (Str × V)} {ds : List (Str × D)}, RepF K F fs ds → (∀ d, ds.lookup n = some d → ∃ v, fs.lookup n = some v ∧ Rep K F v d) ∧ (ds.lookup n = none → fs.lookup n = none)
  | _, _, .nil => ⟨fun _ h => by simp at h, fun _ => rfl⟩
  | _, _, .cons (k := k) (v := v) (d := d) (vs := vs) (ds := ds) r t => by
    have ih := RepF.look n t
    by_cases h : n = k
    · subst h
      have e1 : List.lookup n ((n, d) :: ds) = some d := by simp [List.lookup]
      have e2 : List.lookup n ((n, v) :: vs) = some v := by simp [List.lookup]
      refine ⟨fun d' q => ?_, fun q => ?_⟩
      · rw [e1] at q; cases q
        exact ⟨v, e2, r⟩
      · rw [e1] at q; cases q
    · have hb : (n == k) = false := by simpa using h
      have e1 : List.lookup n ((k, d) :: ds) = List.lookup n ds := by simp [List.lookup, hb]
      have e2 : List.lookup n ((k, v) :: vs) = List.lookup n vs := by simp [List.lookup, hb]
      rw [e1, e2]
      exact ih
theorem ins_at {K : PySem.W.Frag} {F H : Hp} {μ : Mu} {v : V} {d : D} {C : Str} {fs : List (Str × D)} (w : Wd K F H μ) (r : Rep K F v d) (i : IsIns d C fs μ) : ∃ a dx vs, v = .ref a ∧ H a = some (.ins (He.ga K C) dx vs) ∧ RepF K F vs fs := by
  rcases i with rfl | ⟨a, rfl, h⟩
  · cases r with
    | ins h rs => exact ⟨_, _, _, rfl, w.sub _ _ h, rs⟩
  · cases r
    obtain ⟨_, ho, h1, h2⟩ := w.mts a _ h
    cases h2 with
    | ins rs => exact ⟨a, _, _, rfl, h1, rs⟩
def jFld (C f : Str) (ta : TE2) : TE2 := fun δ μ Q => ta δ μ fun x μ1 => ∃ fs d, IsIns x C fs μ1 ∧ fs.lookup f = some d ∧ Q d μ1
theorem jfld {C f : Str} (hc : Cls X.K (He.ga X.K C)) (hn : NoAttr X.K (He.ga X.K C) f) (he : E2 X Z e ta) (hb : attributeBase e f X.env (eval e X.env) = eval e X.env) : E2 X Z (.Attribute e f pos) (jFld C f ta) := by
  refine pe_imp (pe_fld he hb) ?_
  rintro σ H Q ⟨F, δ, μ, Q0, m, q, k⟩
  refine ⟨F, δ, μ, _, m, q, ?_⟩
  rintro d μ1 F1 H1 v ⟨fs, d', hi, hl, q1⟩ g1 w1 r1
  obtain ⟨a, dx, vs, rfl, ha, rs⟩ := ins_at w1 r1 hi
  obtain ⟨v', e1, r'⟩ := (rs.look f).1 _ hl
  exact ⟨a, _, dx, vs, v', rfl, ha, hc, hn, e1, k d' μ1 F1 H1 v' q1 g1 w1 r'⟩
def putD (f : Str) (v : D) : List (Str × D) → List (Str × D)
  | [] => [(f, v)]
  | (g, w) :: r => if g = f then (g, v) :: r else (g, w) :: putD f v r
theorem putF_def (f : Str) (v : V) (fs : List (Str × V)) : putF f v fs = match fs with
  | [] => [(f, v)]
  | (g, w) :: r => if g = f then (g, v) :: r else (g, w) :: putF f v r := by
  cases fs <;> rfl
theorem RepF.put {K : PySem.W.Frag} {F : Hp} {f : Str} {v : V} {d : D} (r : Rep K F v d) : ∀ {fs : List (Str × V)} {ds : List (Str × D)}, RepF K F fs ds → RepF K F (putF f v fs) (putD f d ds)
  | _, _, .nil => .cons r .nil
  | _, _, .cons (k := k) (v := v') (d := d') (vs := vs) (ds := ds) q t => by
    rw [putF_def]
    unfold putD
    by_cases h : k = f
    · subst h
      simp only [if_true]
      exact .cons r t
    · simp only [if_neg h]
      exact .cons q (RepF.put r t)
theorem RepF.length {K : PySem.W.Frag} {F : Hp} : ∀ {fs : List (Str × V)} {ds : List (Str × D)}, RepF K F fs ds → fs.length = ds.length
  | _, _, .nil => rfl
  | _, _, .cons _ t => congrArg (· + 1) (RepF.length t)
def jSetF (C f : Str) (ta tv : TE2) : TS2 := fun D δ μ => tv δ μ fun y μ1 => ta δ μ1 fun x μ2 => ∃ a fs, x = .ref a ∧ μ2 a = some (.ins C fs) ∧ fs.length < 1000 ∧ D.nx δ (mup μ2 a (.ins C (putD f y fs)))
theorem js_fld {C f : Str} {value : Expr} {pos' : Pos} {tv : TE2} (hc : Cls X.K (He.ga X.K C)) (hn : NoAttr X.K (He.ga X.K C) f) (ha : E2 X Z o ta) (hv : E2 X Z value tv) (hs : swapsWith value (some (.Attribute o f pos')) pos.line X.env = pure false) : S2 X Z (.Assign [.Attribute o f pos'] value pos) (jSetF C f ta tv) := by
  refine ps_imp (ps_fld ha hv hs) ?_
  rintro D σ H ⟨F, δ, μ, D2, m, q, e⟩
  refine ⟨F, δ, μ, _, m, q, ?_⟩
  intro y μ1 F1 H1 v q1 g1 w1 r1
  refine ⟨F1, δ, μ1, _, m.step g1 w1, q1, ?_⟩
  rintro x μ2 F2 H2 u ⟨a, fs, rfl, hi, hl, q2⟩ g2 w2 r2
  cases r2
  obtain ⟨_, ho, h1, h2⟩ := w2.mts a _ hi
  cases h2 with
  | ins rs =>
    obtain ⟨w3, g3⟩ := w2.write hi (RepM.ins (C := C) (RepF.put (f := f) (r1.mono g2.ff) rs))
    exact ⟨a, _, _, _, rfl, h1, hc, hn, by rw [rs.length]; exact hl, e.nx _ _ _ _ _ q2 ((g1.trans g2).trans g3) ((m.step g1 w1).step (g2.trans g3) w3)⟩
/-- o.m(e, ..) -/
def jMeth (C m : Str) (sp : Sp2) (dds : List D) (ex : Ex2) (ta : TE2) (t : TA2) : TE2 := fun δ μ Q => ta δ μ fun x μ1 => (∃ fs, IsIns x C fs μ1 ∧ fs.lookup m = none) ∧ t δ μ1 fun ds μ2 => sp (x :: (ds ++ dds)) μ2 (Upd Q) ex
theorem low_meth {K : PySem.W.Frag} {σ : Sv} {H : Hp} {Q : VK} (hdd : ∀ F, Reps K F dvs dds) (hz : ∀ F H μ, Z.p F H μ → ZE K ex E F H μ) {C m : Str} (h : lowE K Z (jMeth C m sp dds ex ta t) σ H Q) : tMeth (He.ga K C) m (lowSp K sp) dvs E (lowE K Z ta) (lowA K Z t) σ H Q := by
  obtain ⟨F, δ, μ, Q0, mm, q, k⟩ := h
  refine ⟨F, δ, μ, _, mm, q, ?_⟩
  rintro x μ0 F0 H0 xv ⟨⟨fs, hi, hl⟩, q0⟩ g0 w0 r0
  obtain ⟨a, dx, vs0, rfl, ha, rs⟩ := ins_at w0 r0 hi
  refine ⟨a, dx, vs0, rfl, ha, (rs.look m).2 hl, F0, δ, μ0, _, mm.step g0 w0, q0, ?_⟩
  intro as μ1 F1 H1 vs q1 g1 w1 r1
  refine ⟨F1, μ1, x :: (as ++ dds), _, ex, w1, .cons (r0.mono g1.ff) (r1.append (hdd F1)), q1, ?_, hz _ _ _ (Z.up mm.z (g0.trans g1))⟩
  intro d μ2 F2 H2 v q2 g2 w2 r2
  obtain ⟨F3, d3, μ3, g3, w3, r3, q3⟩ := q2 K F2 H2 v w2 r2
  exact k d3 μ3 F3 H2 v q3 (((g0.trans g1).trans g2).trans g3) w3 r3
theorem jmeth {pl : Sem Bool} {C m : Str} (he : E2 X Z o ta) (c : Cls X.K (He.ga X.K C)) (hm : Meth X.K (He.ga X.K C) m f) (F : FnOk X.prog X.w X.K X.mg X.base CX k f fd ps (lowSp X.K sp)) (hr : Room k X.A) (hb : Binds X.K fd ps ds) (hd : Vals dvs ds) (hdd : ∀ F, Reps X.K F dvs dds) (hx : Passes CX X E) (hz : ∀ F H μ, Z.p F H μ → ZE X.K ex E F H μ) (ha : A2 X Z (e :: es) t)
    (hst : starEach (e :: es) X.env = (false, eval e X.env) :: starEach es X.env := by rfl) (hpl : (backTo pos (starEach es X.env)).any (·.1) = false := by rfl)
    (ht : eval (.Call (.Attribute o m apos) (e :: es) [] pos) X.env = (do
      let ov ← eval o X.env
      standAt apos.atName
      let (f, first) ← holding [ov] (getMethod ov m pl)
      callWith pos f first (backTo pos (starEach (e :: es) X.env)) (backToKw pos (keywordEach [] X.env))) := by rfl) : E2 X Z (.Call (.Attribute o m apos) (e :: es) [] pos) (jMeth C m sp dds ex ta t) :=
  pe_imp (pe_meth he c hm F hr hb hd hx ha hst hpl ht) fun _ _ _ h => low_meth hdd hz h
theorem jmeth0 {pl : Sem Bool} {C m : Str} (he : E2 X Z o ta) (c : Cls X.K (He.ga X.K C)) (hm : Meth X.K (He.ga X.K C) m f) (F : FnOk X.prog X.w X.K X.mg X.base CX k f fd ps (lowSp X.K sp)) (hr : Room k X.A) (hb : Binds X.K fd ps ds) (hd : Vals dvs ds) (hdd : ∀ F, Reps X.K F dvs dds) (hx : Passes CX X E) (hz : ∀ F H μ, Z.p F H μ → ZE X.K ex E F H μ)
    (ht : eval (.Call (.Attribute o m apos) [] [] pos) X.env = (do
      let ov ← eval o X.env
      standAt apos.atName
      let (f, first) ← holding [ov] (getMethod ov m pl)
      callWith pos f first (backTo pos (starEach [] X.env)) (backToKw pos (keywordEach [] X.env))) := by rfl) : E2 X Z (.Call (.Attribute o m apos) [] [] pos) (jMeth C m sp dds ex ta jNil) := by
  refine pe_imp (pe_meth0 he c hm F hr hb hd hx ht) fun σ H Q h => ?_
  obtain ⟨F, δ, μ, Q0, mm, q, k⟩ := h
  refine ⟨F, δ, μ, _, mm, q, ?_⟩
  rintro x μ0 F0 H0 xv ⟨⟨fs, hi, hl⟩, q0⟩ g0 w0 r0
  obtain ⟨a, dx, vs0, rfl, ha, rs⟩ := ins_at w0 r0 hi
  refine ⟨a, dx, vs0, rfl, ha, (rs.look m).2 hl, F0, μ0, x :: dds, _, ex, w0, .cons r0 (hdd F0), q0, ?_, hz _ _ _ (Z.up mm.z g0)⟩
  intro d μ2 F2 H2 v q2 g2 w2 r2
  obtain ⟨F3, d3, μ3, g3, w3, r3, q3⟩ := q2 X.K F2 H2 v w2 r2
  exact k d3 μ3 F3 H2 v q3 ((g0.trans g2).trans g3) w3 r3
/-- C(e, ..) -/
def jMake (C : Str) (sp : Sp2) (dds : List D) (ex : Ex2) (t : TA2) : TE2 := fun δ μ Q => t δ μ fun ds μ1 => ∀ x, μ1 x = none → sp (.ref x :: (ds ++ dds)) (mup μ1 x (.ins C [])) (fun d μ2 => d = .non ∧ Upd Q (.ref x) μ2) ex
theorem low_make {C : Str} {K : PySem.W.Frag} {F H : Hp} {μ : Mu} {Q : VK} {Q0 : QE} {as : List D} {vs : List V} (w : Wd K F H μ) (rs : Reps K F vs as) (hdd : ∀ F, Reps K F dvs dds) (hz : ZE K ex E F H μ)
    (q : ∀ x, μ x = none → sp (.ref x :: (as ++ dds)) (mup μ x (.ins C [])) (fun d μ2 => d = .non ∧ Upd Q0 (.ref x) μ2) ex)
    (k : ∀ d μ' F' H' v, Q0 d μ' → Gr F H μ F' H' μ' → Wd K F' H' μ' → Rep K F' v d → Q v H') :
    ∀ x dx, H x = none → H dx = none → dx ≠ x → lowSp K sp (.ref x :: (vs ++ dvs)) (upd (upd H dx (.own x)) x (.ins (He.ga K C) dx [])) (fun v H2 => v = .non ∧ Q (.ref x) H2) E := by
  intro x dx hx hdx ne
  have w1 : Wd K F (upd H dx (.own x)) μ ∧ Gr F H μ F (upd H dx (.own x)) μ := by
    have fd : F dx = none := by
      cases h : F dx with
      | none => rfl
      | some u => rw [w.sub dx u h] at hdx; cases hdx
    refine ⟨⟨fun b u e => by rw [upd_ne (ne_of_none e fd)]; exact w.sub b u e, fun a u e => ?_⟩, ⟨Same.refl _, fun b u h1 h2 h3 => ?_⟩⟩
    · obtain ⟨h1, ho, h2, h3⟩ := w.mts a u e
      exact ⟨h1, ho, by rw [upd_ne (ne_of_none h2 hdx)]; exact h2, h3⟩
    · exact ⟨by rw [upd_ne (ne_of_none h1 hdx)]; exact h1, h2, h3⟩
  obtain ⟨w1, g1⟩ := w1
  have hx1 : upd H dx (.own x) x = none := by rw [upd_ne ne.symm]; exact hx
  obtain ⟨w2, g2, mx⟩ := w1.fresh (o := .ins (He.ga K C) dx []) hx1 (RepM.ins (C := C) .nil)
  refine ⟨F, _, _, _, ex, w2, .cons .ref (rs.append (hdd F)), q x mx, ?_, ?_⟩
  · rintro d μ3 F3 H3 v ⟨rfl, q3⟩ g3 w3 r3
    cases r3
    refine ⟨rfl, ?_⟩
    obtain ⟨F4, d4, μ4, g4, w4, r4, q4⟩ := q3 K F3 H3 (.ref x) w3 .ref
    exact k d4 μ4 F4 H3 _ q4 (((g1.trans g2).trans g3).trans g4) w4 r4
  · exact (ZEw K ex E).up hz (g1.trans g2)
theorem jmake {C : Str} (M : Mk X.K (He.ga X.K C) f) (F : FnOk X.prog X.w X.K X.mg X.base CX k f fd ps (lowSp X.K sp)) (hr : Room (k + 1) X.A) (hg : Gl X x) (hm : X.mg x = some (.ref (He.ga X.K C))) (hb : Binds X.K fd ps ds) (hd : Vals dvs ds) (hdd : ∀ F, Reps X.K F dvs dds) (hx : Passes CX X E) (hz : ∀ F H μ, Z.p F H μ → ZE X.K ex E F H μ)
    (ha : A2 X Z (e :: es) t) (hdb : (x == ("__debug__" : Str)) = false := by decide) (he : starEach (e :: es) X.env = (false, eval e X.env) :: starEach es X.env := by rfl) (hpl : (backTo pos (starEach es X.env)).any (·.1) = false := by rfl) :
    E2 X Z (.Call (.Name x p) (e :: es) [] pos) (jMake C sp dds ex t) := by
  refine pe_imp (pe_make M F hr hg hm hb hd hx ha hdb he hpl) fun σ H Q h => ?_
  obtain ⟨F, δ, μ, Q0, mm, q, k⟩ := h
  refine ⟨F, δ, μ, _, mm, q, ?_⟩
  intro as μ1 F1 H1 vs q1 g1 w1 r1
  exact low_make w1 r1 hdd (hz _ _ _ (Z.up mm.z g1)) q1 fun d μ' F' H' v q' g' w' r' => k d μ' F' H' v q' (g1.trans g') w' r'
theorem jmake0 {C : Str} (M : Mk X.K (He.ga X.K C) f) (F : FnOk X.prog X.w X.K X.mg X.base CX k f fd ps (lowSp X.K sp)) (hr : Room (k + 1) X.A) (hg : Gl X x) (hm : X.mg x = some (.ref (He.ga X.K C))) (hb : Binds X.K fd ps ds) (hd : Vals dvs ds) (hdd : ∀ F, Reps X.K F dvs dds) (hx : Passes CX X E) (hz : ∀ F H μ, Z.p F H μ → ZE X.K ex E F H μ)
    (hdb : (x == ("__debug__" : Str)) = false := by decide) : E2 X Z (.Call (.Name x p) [] [] pos) (jMake C sp dds ex jNil) := by
  refine pe_imp (pe_make0 M F hr hg hm hb hd hx hdb) fun σ H Q h => ?_
  obtain ⟨F, δ, μ, Q0, mm, q, k⟩ := h
  exact low_make mm.wd .nil hdd (hz _ _ _ mm.z) q k
end

/-! ### a def's body -/
def startD (N : List Str) (ds : List D) : Sg := ds.map some ++ List.replicate (N.length - ds.length) none
theorem repE_start {K : PySem.W.Frag} {F : Hp} (N : List Str) : ∀ {vs : List V} {ds : List D}, Reps K F vs ds → RepE K F (start N vs) (startD N ds) := by
  intro vs ds r
  unfold L2.start startD
  rw [r.length]
  generalize N.length - ds.length = n
  induction r using Reps.rec (motive_1 := fun _ _ _ => True) (motive_3 := fun _ _ _ => True) (motive_4 := fun _ _ _ => True) with
  | nil =>
    show Paired _ (List.replicate n none) (List.replicate n none)
    induction n with
    | zero => exact .nil
    | succ n ih => exact .cons trivial ih
  | cons r _ _ ih => exact .cons r ih
  | _ => trivial
/-- what a body is to reach -/
def ends (Q : QE) : Ends2 := { nx := fun _ μ => Upd Q .non μ, rt := Upd Q }
section
variable {P : Program} {w : World} {K : PySem.W.Frag} {mg : Str → Option Value} {base : Heap}
theorem low_body {X : Cx} {Z : Zw} {K : PySem.W.Frag} {N : List Str} {t : TS2} {vs : List V} {H : Hp} {Q : VK} {F : Hp} {μ : Mu} {ds : List D} {Q0 : QE} (w : Wd K F H μ) (r : Reps K F vs ds) (z : Z.p F H μ) (h : t (ends Q0) (startD N ds) μ)
    (k : ∀ d μ' F' H' v, Q0 d μ' → Gr F H μ F' H' μ' → Wd K F' H' μ' → Rep K F' v d → Q v H') : lowS K Z t { nx := fun _ H' => Q .non H', rt := Q } (start N vs) H := by
  refine ⟨F, _, μ, _, ⟨w, repE_start N r, z⟩, h, ?_, ?_, ?_, ?_⟩
  · intro δ' μ' F' σ' H' q g m
    obtain ⟨F2, d2, μ2, g2, w2, r2, q2⟩ := q K F' H' .non m.wd .non
    exact k d2 μ2 F2 H' _ q2 (g.trans g2) w2 r2
  · intro d μ' F' H' v q g w' r'
    obtain ⟨F2, d2, μ2, g2, w2, r2, q2⟩ := q K F' H' v w' r'
    exact k d2 μ2 F2 H' _ q2 (g.trans g2) w2 r2
  · intro _ _ _ _ _ h; exact h.elim
  · intro _ _ _ _ _ h; exact h.elim
/-- THE RULE for a def that raises nothing -/
theorem fnok {x qual : Str} {params : Arguments} {body : List Stmt} {scope : Scope} {dvs : List V} {kws : List (Str × V)} {f : Addr} {fd : FuncData} {N ps : List Str} {k : Nat} {sp : Sp2} {t : TS2} (F : FunD K x qual params body scope dvs kws f fd) (S : FnScope N ps scope)
    (len : ∀ ds μ Q ex, sp ds μ Q ex → ds.length = ps.length)
    (hbody : ∀ (cdv : Value) (A : Around) (outer : List Env) (s : Shared) (H : Hp) (E : XK), Room k (A.deeper (envOfC qual scope s.heap.objs.size f cdv)) → B2 (cxOf CX0 P w K mg base N qual scope f cdv A outer s H E).nox Z0 body t)
    (hpure : ∀ ds μ Q ex, sp ds μ Q ex → t (ends Q) (startD N ds) μ) : FnOk P w K mg base CX0 (k + 1) f fd ps (lowSp K sp) := by
  refine F.ok S (fun vs H Q E h => ?_) (fun cdv A outer s H vs Q E hr h => ?_)
  · obtain ⟨F, μ, ds, Q0, ex, _, r, q, _⟩ := h
    rw [r.length]
    exact len _ _ _ _ q
  · obtain ⟨F1, μ, ds, Q0, ex, wd, r, q, kk, _⟩ := h
    exact ⟨_, (hbody cdv A outer s H E hr).nox, low_body (X := cxOf CX0 P w K mg base N qual scope f cdv A outer s H E) (Z := Z0) wd r trivial (hpure ds μ Q0 ex q) kk⟩
end

/-! ### for -/
def ItOk (K : PySem.W.Frag) (J : It) (F0 : Hp) (items : List D) (G : Mu → Prop) : Prop :=
  ∀ F H μ, Same F0 F → Wd K F H μ → G μ → (∀ (i : Nat) d, items[i]? = some d → J.go i H ∧ ∀ x H', J.yld i H x H' → ∃ F', Gr F H μ F' H' μ ∧ Wd K F' H' μ ∧ Rep K F' x d) ∧ ∀ i, items.length ≤ i → J.stop i H
abbrev TI2 := Sg → Mu → (List D → (Mu → Prop) → Mu → Prop) → Prop
def lowI (K : PySem.W.Frag) (Z : Zw) (ti : TI2) : TI := fun σ H R => ∃ F δ μ Q0, Mt K Z F σ H δ μ ∧ ti δ μ Q0 ∧ ∀ items G μ' F' H' J, Q0 items G μ' → Gr F H μ F' H' μ' → Wd K F' H' μ' → ItOk K J F' items G → R J H'
abbrev I2 (X : Cx) (Z : Zw) (tg iter : Expr) (ti : TI2) : Prop := PI X tg iter (lowI X.K Z ti)
theorem pi_imp {X : Cx} {tg iter : Expr} {t t' : TI} (h : PI X tg iter t) (i : ∀ σ H Q, t' σ H Q → t σ H Q) : PI X tg iter t' := ⟨fun pins s σ H Q I q => h.run pins s σ H Q I (i _ _ _ q)⟩
def jLoop (g : TG2) (tb : TS2) (G : Mu → Prop) (D : Ends2) : List J.D → Sg → Mu → Prop
  | [] => fun δ μ => G μ ∧ D.nx δ μ
  | x :: r => fun δ μ => G μ ∧ g x δ μ fun δ' μ' => tb { D with nx := jLoop g tb G D r, ct := jLoop g tb G D r, bk := D.nx } δ' μ'
def jFor (ti : TI2) (g : TG2) (tb : TS2) : TS2 := fun D δ μ => ti δ μ fun items G μ1 => jLoop g tb G D items δ μ1
theorem drop_at {α : Type} {l : List α} {i : Nat} (h : i < l.length) : ∃ x, l[i]? = some x ∧ l.drop i = x :: l.drop (i + 1) :=
  ⟨l[i], by simp [h], List.drop_eq_getElem_cons h⟩
section
variable {X : Cx} {Z : Zw}
theorem js_for {tg iter : Expr} {body : List Stmt} {pos : Pos} {ti : TI2} {g : TG2} {tb : TS2} (hp : PassesOwn (model X.prog X.w) X.A X.env X.xe) (hc : X.calm = true) (hi : I2 X Z tg iter ti) (hg : G2 X Z tg g) (hb : B2 X Z body tb)
    (hs : ∀ x, foldedSetIterable iter X.env x = pure x := by intro _; rfl) : S2 X Z (.For tg iter body [] pos) (jFor ti g tb) := by
  refine ps_imp (ps_for hp hc hi hg hb hs) ?_
  rintro D σ H ⟨F, δ, μ, D2, m, q, e⟩
  refine ⟨F, δ, μ, _, m, q, ?_⟩
  intro items G μ1 F1 H1 J q1 g1 w1 io
  have e1 := e.step g1
  refine ⟨fun i n σ H => n = items.length - i ∧ i ≤ items.length ∧ ∃ F δ μ, Gr F1 H1 μ1 F H μ ∧ Mt X.K Z F σ H δ μ ∧ jLoop g tb G D2 (items.drop i) δ μ, ⟨_, rfl, Nat.zero_le _, F1, δ, μ1, .refl, m.step g1 w1, q1⟩, ?_⟩
  rintro i n σ2 H2 ⟨rfl, hi, F2, δ2, μ2, g2, m2, q2⟩
  by_cases hlt : i < items.length
  · obtain ⟨x, hx, hd⟩ := drop_at hlt
    rw [hd] at q2
    obtain ⟨hG, q2⟩ := q2
    obtain ⟨go, yl⟩ := (io F2 H2 μ2 g2.ff m2.wd hG).1 i x hx
    refine .inr ⟨go, fun σ H => ∃ F δ μ, Gr F1 H1 μ1 F H μ ∧ Mt X.K Z F σ H δ μ ∧ jLoop g tb G D2 (items.drop (i + 1)) δ μ, fun σ' H' z => ⟨items.length - (i + 1), by omega, rfl, by omega, z⟩, ?_⟩
    intro xv H3 hy
    obtain ⟨F3, g3, w3, r3⟩ := yl xv H3 hy
    refine ⟨F3, δ2, μ2, x, _, m2.step g3 w3, r3, q2, ?_⟩
    intro δ4 μ4 F4 σ4 H4 q4 g4 m4
    have gg := (g2.trans g3).trans g4
    refine ⟨F4, δ4, μ4, _, m4, q4, ?_, (e1.step gg).rt, ?_, ?_⟩
    · intro δ5 μ5 F5 σ5 H5 q5 g5 m5
      exact ⟨F5, δ5, μ5, gg.trans g5, m5, q5⟩
    · exact (e1.step gg).nx
    · intro δ5 μ5 F5 σ5 H5 q5 g5 m5
      exact ⟨F5, δ5, μ5, gg.trans g5, m5, q5⟩
  · have ei : i = items.length := by omega
    subst ei
    rw [List.drop_length] at q2
    obtain ⟨hG, q2⟩ := q2
    exact .inl ⟨(io F2 H2 μ2 g2.ff m2.wd hG).2 _ (Nat.le_refl _), e1.nx _ _ _ _ _ q2 g2 m2⟩

/-! ### while -/
def jWhile (c : TT2) (tb : TS2) : TS2 := fun D δ μ => ∃ W : Nat → Sg → Mu → Prop, (∃ m, W m δ μ) ∧ ∀ m δ μ, W m δ μ → c δ μ fun b μ1 => if b = true then tb { D with nx := fun δ' μ' => ∃ m', m' < m ∧ W m' δ' μ', ct := fun δ' μ' => ∃ m', m' < m ∧ W m' δ' μ', bk := D.nx } δ μ1 else D.nx δ μ1
theorem js_while {c : Expr} {body : List Stmt} {pos : Pos} {tc : TT2} {tb : TS2} (hp : PassesOwn (model X.prog X.w) X.A X.env X.xe) (hc : T2 X Z c tc) (hb : B2 X Z body tb) : S2 X Z (.While c body [] pos) (jWhile tc tb) := by
  refine ps_imp (ps_while hp hc hb) ?_
  rintro D σ H ⟨F, δ, μ, D2, mm, ⟨W, ⟨m0, w0⟩, turn⟩, e⟩
  refine ⟨fun n σ' H' => ∃ F' δ' μ', Gr F H μ F' H' μ' ∧ Mt X.K Z F' σ' H' δ' μ' ∧ W n δ' μ', ⟨m0, F, δ, μ, .refl, mm, w0⟩, ?_⟩
  rintro n σ1 H1 ⟨F1, δ1, μ1, g1, m1, w1⟩
  refine ⟨F1, δ1, μ1, _, m1, turn n δ1 μ1 w1, ?_⟩
  rintro b μ2 F2 H2 q2 g2 w2
  have gg := g1.trans g2
  have m2 := m1.step g2 w2
  cases b with
  | true =>
    rw [if_pos rfl] at q2 ⊢
    refine ⟨fun σ' H' => ∃ m', m' < n ∧ ∃ F' δ' μ', Gr F H μ F' H' μ' ∧ Mt X.K Z F' σ' H' δ' μ' ∧ W m' δ' μ', fun σ' H' z => z, F2, δ1, μ2, _, m2, q2, ?_, (e.step gg).rt, (e.step gg).nx, ?_⟩
    · rintro δ5 μ5 F5 σ5 H5 ⟨m', hm, q5⟩ g5 m5
      exact ⟨m', hm, F5, δ5, μ5, gg.trans g5, m5, q5⟩
    · rintro δ5 μ5 F5 σ5 H5 ⟨m', hm, q5⟩ g5 m5
      exact ⟨m', hm, F5, δ5, μ5, gg.trans g5, m5, q5⟩
  | false =>
    rw [if_neg Bool.false_ne_true] at q2 ⊢
    exact e.nx _ _ _ _ _ q2 gg m2
end
end J

/-! J3a: a text in a list of any values. -/
namespace J
open PySem PySem.Spec PyProof.Rows L2
section
variable {A : Around} {s : Shared}
theorem dict_declines_str {l : Addr} {dd : Option Addr} {es : Array DictEntry} {ep : Nat} {sl : Array (Option Value)} (b : Str) (u : Tok) :
    Meets (Builtin.«dict.__eq__» ⟨[.ref l, .str b u], []⟩) (fun _ R s => s.heap.get? l = some { cls := .type "dict", dict := dd, data := .dict es ep, slots := sl } ∧ R (.ok (.ret .notImplemented)) s) :=
  .of_wp fun prog w A R s h => by
    obtain ⟨ho, h⟩ := h
    show wpAny _ _ (Builtin.Dict.dictSlotArgs "__eq__" ⟨[.ref l, .str b u], []⟩ >>= _) _ _ s
    refine wpAny_bind ?_
    unfold Builtin.Dict.dictSlotArgs
    refine wpAny_bind (wpAny_notOrdered_dict ⟨_, ho, rfl⟩ ?_)
    show wpAny _ _ (pure (Value.ref l, Value.str b u)) _ _ s
    refine wpAny_pure ?_
    refine wpAny_bind (wpAny_isInstance (T := "str") (typeIs_str s b u) PySem.F.sub_str_dict ?_)
    simp only [Bool.not_false, if_true]
    refine wpAny_bind (wpAny_rule ?_)
    exact wpAny_pure ⟨_, rfl, h⟩
theorem str_declines_dict {l : Addr} {dd : Option Addr} {es : Array DictEntry} {ep : Nat} {sl : Array (Option Value)} (b : Str) (u : Tok) :
    Meets (Builtin.«str.__eq__» ⟨[.str b u, .ref l], []⟩) (fun _ R s => s.heap.get? l = some { cls := .type "dict", dict := dd, data := .dict es ep, slots := sl } ∧ R (.ok (.ret .notImplemented)) s) :=
  .of_wp fun prog w A R s h => by obtain ⟨hp, g, d, tk, os⟩ := s; obtain ⟨hl, h⟩ := h; wp_walk using wpAny_loadPart' hl, wpAny_load hl; exact ⟨_, rfl, h⟩
theorem eqAt_dict_str {l : Addr} {o : Obj} {es : Array DictEntry} {ep : Nat} (b : Str) (u : Tok) (ho : s.heap.get? l = some o) (hx : o.cls = .type "dict") (hd : o.data = .dict es ep) (hu : A.units < cLine) : SeqAt.EqAt A s (.ref l) (.str b u) false := fun prog w E Q h => by
  obtain ⟨cls, dd, data, sl⟩ := o
  simp only at hx hd
  subst hx hd
  unfold eqBool
  refine wpAny_holding ?_
  refine wpAny_ite_split (fun hab => absurd (eq_of_beq hab) nofun) (fun _ => ?_)
  refine wpAny_bind (SeqAt.rc_eq_decline_or (k := false) ⟨_, ho, rfl⟩ (typeIs_str s b u) (by decide) F.sub_str_dict F.slot_dict_eq F.slot_str_eq_refl
    (fun _ hq => call_meets F.slot_dict_eq ⟨_, ho, rfl⟩ F.entry_dict_eq (F.args_dict_eq_2 _ _) (dict_declines_str b u) ⟨ho, hq⟩)
    (fun _ hq => call_meets F.slot_str_eq_refl (typeIs_str s b u) F.entry_str_eq (F.args_str_eq_2 _ _) (str_declines_dict b u) ⟨ho, hq⟩)
    (fun _ hq => wpAny_of_eq (rfl : isSame (.ref l) (.str b u) = pure false) hq) (.inr hu) (wpAny_truthy_bool h))
end
def D.fl : D → Bool
  | .non => true
  | .bl _ => true
  | .int _ => true
  | .str _ => true
  | _ => false
/-- the values that a text is looked for among -/
def D.any : D → Bool
  | .lst _ => true
  | .tup _ => true
  | .dct _ => true
  | d => d.fl
def isS (t : Str) : D → Bool
  | .str u => u == t
  | _ => false
section
variable {X : Cx}
theorem rep_eqAt {A : Around} {pins : List (Addr × Obj)} {σ : Sv} {H : Hp} {s : Shared} (I : Inv X pins σ H s) (hu : A.units < cLine) {F : Hp} {μ : Mu} (w : Wd X.K F H μ) {v : V} {d : D} {u : Value} (r : Rep X.K F v d) (rv : RelV v u) (hn : d.any = true) (t : Str) (tk : Tok) : SeqAt.EqAt A s u (.str t tk) (isS t d) := by
  have rx : RelV (.str t) (.str t tk) := ⟨tk, rfl⟩
  cases r with
  | non => exact eqAt_V rv rx rfl rfl
  | bl => exact eqAt_V rv rx rfl rfl
  | int => exact eqAt_V rv rx rfl rfl
  | str => exact eqAt_V rv rx rfl rfl
  | lst h rs =>
    cases rv
    obtain ⟨its, r2, pl, _⟩ := I.list (SqL.of (w.sub _ _ h))
    exact SeqAt.EqAt.list_str t tk pl.isList hu
  | tup h rs =>
    cases rv
    obtain ⟨its, r2, pl, _⟩ := I.tuple (sqt_mono w.sub h)
    exact SeqAt.EqAt.tuple_str t tk pl hu
  | dct h rs =>
    cases rv
    obtain ⟨_, _, vs, _, o, es, ep, ho, hc, hd, _⟩ := dk_of I.hok (w.sub _ _ h)
    exact eqAt_dict_str t tk ho hc.1 hd hu
  | _ => cases hn
theorem vals_eqAt {A : Around} {pins : List (Addr × Obj)} {σ : Sv} {H : Hp} {s : Shared} (I : Inv X pins σ H s) (hu : A.units < cLine) {F : Hp} {μ : Mu} (w : Wd X.K F H μ) (t : Str) (tk : Tok) : ∀ {vs : List V} {ds : List D} {us : List Value}, Reps X.K F vs ds → Vals vs us → ds.all D.any = true → (∀ u ∈ us, SeqAt.EqAt A s u (.str t tk) (eqU (.str t) u)) ∧ us.any (eqU (.str t)) = ds.any (isS t)
  | _, _, _, .nil, .nil, _ => ⟨fun u h => (by cases h), rfl⟩
  | _, _, _, .cons r rs, .cons rv rvs, h => by
    rw [List.all_cons, Bool.and_eq_true] at h
    obtain ⟨h1, h2⟩ := vals_eqAt I hu w t tk rs rvs h.2
    have e := rep_eqAt I hu w r rv h.1 t tk
    have eu : ∀ {v : V} {d : D} {u : Value}, Rep X.K F v d → RelV v u → d.any = true → eqU (.str t) u = isS t d := by
      intro v d u r rv hn
      cases r with
      | non => cases rv; rfl
      | bl => cases rv; rfl
      | int => obtain ⟨_, rfl⟩ := rv; rfl
      | str => obtain ⟨_, rfl⟩ := rv; rfl
      | lst h rs => cases rv; rfl
      | tup h rs => cases rv; rfl
      | dct h rs => cases rv; rfl
      | _ => cases hn
    refine ⟨fun u' hu' => ?_, ?_⟩
    · rcases List.mem_cons.mp hu' with rfl | hu'
      · rw [eu r rv h.1]
        exact e
      · exact h1 u' hu'
    · rw [List.any_cons, List.any_cons, h2, eu r rv h.1]
end
end J

namespace J
open PySem PySem.Spec PyProof.Rows L2

section
variable {X : Cx}
/-! ### views -/
def LstAt (μ : Mu) (d : D) (xs : List D) : Prop := d = .lst xs ∨ ∃ a, d = .ref a ∧ μ a = some (.lst xs)
def SeqAt (μ : Mu) (d : D) (xs : List D) : Prop := LstAt μ d xs ∨ d = .rol xs
def DctAt (μ : Mu) (d : D) (xs : List (Key × D)) : Prop := d = .dct xs ∨ ∃ a, d = .ref a ∧ μ a = some (.dct xs)
theorem LstAt.f {μ : Mu} {xs : List D} : LstAt μ (.lst xs) xs := .inl rfl
theorem LstAt.m {μ : Mu} {a : Addr} {xs : List D} (h : μ a = some (.lst xs)) : LstAt μ (.ref a) xs := .inr ⟨a, rfl, h⟩
theorem SeqAt.f {μ : Mu} {xs : List D} : SeqAt μ (.lst xs) xs := .inl (.inl rfl)
theorem SeqAt.r {μ : Mu} {xs : List D} : SeqAt μ (.rol xs) xs := .inr rfl
theorem SeqAt.m {μ : Mu} {a : Addr} {xs : List D} (h : μ a = some (.lst xs)) : SeqAt μ (.ref a) xs := .inl (.inr ⟨a, rfl, h⟩)
theorem DctAt.f {μ : Mu} {xs : List (Key × D)} : DctAt μ (.dct xs) xs := .inl rfl
theorem DctAt.m {μ : Mu} {a : Addr} {xs : List (Key × D)} (h : μ a = some (.dct xs)) : DctAt μ (.ref a) xs := .inr ⟨a, rfl, h⟩
section
variable {K : PySem.W.Frag} {F H : Hp} {μ : Mu} {v : V} {d : D}
theorem lst_at {xs : List D} (w : Wd K F H μ) (r : Rep K F v d) (h : LstAt μ d xs) : ∃ a vs, v = .ref a ∧ H a = some (.lst vs) ∧ Reps K F vs xs := by
  rcases h with rfl | ⟨a, rfl, h⟩
  · cases r with
    | lst h rs => exact ⟨_, _, rfl, w.sub _ _ h, rs⟩
  · cases r
    obtain ⟨_, ho, h1, h2⟩ := w.mts a _ h
    cases h2 with
    | lst rs => exact ⟨a, _, rfl, h1, rs⟩
theorem seq_at {xs : List D} (w : Wd K F H μ) (r : Rep K F v d) (h : SeqAt μ d xs) : ∃ a vs, v = .ref a ∧ SqL K H a vs ∧ Reps K F vs xs := by
  rcases h with h | rfl
  · obtain ⟨a, vs, e, h1, rs⟩ := lst_at w r h
    exact ⟨a, vs, e, SqL.of h1, rs⟩
  · cases r with
    | rol h rs => exact ⟨_, _, rfl, w.sub.seq h, rs⟩
theorem tup_at {xs : List D} (w : Wd K F H μ) (r : Rep K F v (.tup xs)) : ∃ a vs, v = .ref a ∧ SqT K H a vs ∧ Reps K F vs xs := by
  cases r with
  | tup h rs => exact ⟨_, _, rfl, sqt_mono w.sub h, rs⟩
theorem dct_at {xs : List (Key × D)} (w : Wd K F H μ) (r : Rep K F v d) (h : DctAt μ d xs) : ∃ a vs, v = .ref a ∧ H a = some (.dK vs) ∧ RepK K F vs xs := by
  rcases h with rfl | ⟨a, rfl, h⟩
  · cases r with
    | dct h rs => exact ⟨_, _, rfl, w.sub _ _ h, rs⟩
  · cases r
    obtain ⟨_, ho, h1, h2⟩ := w.mts a _ h
    cases h2 with
    | dct rs => exact ⟨a, _, rfl, h1, rs⟩
theorem mlst_at {a : Addr} {xs : List D} (w : Wd K F H μ) (h : μ a = some (.lst xs)) : ∃ vs, H a = some (.lst vs) ∧ Reps K F vs xs := by
  obtain ⟨_, ho, h1, h2⟩ := w.mts a _ h
  cases h2 with
  | lst rs => exact ⟨_, h1, rs⟩
theorem mdct_at {a : Addr} {xs : List (Key × D)} (w : Wd K F H μ) (h : μ a = some (.dct xs)) : ∃ vs, H a = some (.dK vs) ∧ RepK K F vs xs := by
  obtain ⟨_, ho, h1, h2⟩ := w.mts a _ h
  cases h2 with
  | dct rs => exact ⟨_, h1, rs⟩
theorem atI_rep {vs : List V} {xs : List D} {i : Int} (rs : Reps K F vs xs) (h : atI xs i = some d) : ∃ v, atI vs i = some v ∧ Rep K F v d := by
  unfold atI at h ⊢
  rw [rs.length]
  cases e : ixN xs.length i with
  | none => rw [e] at h; cases h
  | some j =>
    rw [e] at h
    exact rs.get h
theorem tr {F1 H1 : Hp} {Q0 : QE} {Q : VK} {μ1 : Mu} (k : ∀ d' μ' F' H' v, Q0 d' μ' → Gr F H μ F' H' μ' → Wd K F' H' μ' → Rep K F' v d' → Q v H') (g : Gr F H μ F1 H1 μ1) :
    ∀ d' μ' F' H' v, Q0 d' μ' → Gr F1 H1 μ1 F' H' μ' → Wd K F' H' μ' → Rep K F' v d' → Q v H' := fun d' μ' F' H' v q g' w r => k d' μ' F' H' v q (g.trans g') w r
end

/-! ### arithmetic -/
def add2 : O2
  | .int i, .int j, μ, Q => Q (.int (i + j)) μ
  | .str x, .str y, μ, Q => x.length + y.length ≤ sizeLine ∧ Q (.str (x ++ y)) μ
  | .tup xs, .tup ys, μ, Q => xs.length + ys.length ≤ sizeLine ∧ Q (.tup (xs ++ ys)) μ
  | .int i, .bl b, μ, Q => Q (.int (i + b2i b)) μ
  | x, y, μ, Q => ∃ xs ys, LstAt μ x xs ∧ LstAt μ y ys ∧ xs.length + ys.length ≤ sizeLine ∧ NewL (xs ++ ys) μ Q
theorem add_lists {pins : List (Addr × Obj)} {s : Shared} {σ : Sv} {H : Hp} {x y : V} {v u : Value} {Q : VK} {F : Hp} {μ : Mu} {d e : D} {Q0 : QE} (I : Inv X pins σ H s) (rx : RelV x v) (ry : RelV y u) (w : Wd X.K F H μ) (r1 : Rep X.K F x d) (r2 : Rep X.K F y e)
    (q : ∃ xs ys, LstAt μ d xs ∧ LstAt μ e ys ∧ xs.length + ys.length ≤ sizeLine ∧ NewL (xs ++ ys) μ Q0) (k : ∀ d' μ' F' H' v, Q0 d' μ' → Gr F H μ F' H' μ' → Wd X.K F' H' μ' → Rep X.K F' v d' → Q v H') : wpAny (model X.prog X.w) X.A (binaryOp .Add v u) (EP X pins σ Q) X.xe s := by
  obtain ⟨xs, ys, hx, hy, hl, n⟩ := q
  obtain ⟨a, vs, rfl, ha, rs⟩ := lst_at w r1 hx
  obtain ⟨b, us, rfl, hb, rs2⟩ := lst_at w r2 hy
  exact op_cat pins s σ H _ _ v u Q I rx ry ⟨a, b, vs, us, rfl, rfl, ha, hb, by rw [rs.length, rs2.length]; exact hl, fun p hp => newL_ok w hp (rs.append rs2) n k⟩
theorem oadd : OpR X (binaryOp .Add) (lowO2 X.K add2) := by
  rintro pins s σ H x y v u Q I rx ry ⟨F, μ, d, e, Q0, w, r1, r2, q, k⟩
  cases d <;> cases e <;> first
    | exact add_lists I rx ry w r1 r2 q k
    | skip
  · cases r1; cases r2
    exact op_add_ib pins s σ H _ _ v u Q I rx ry ⟨_, _, rfl, rfl, k _ _ _ _ _ q .refl w .int⟩
  · cases r1; cases r2
    exact op_add pins s σ H _ _ v u Q I rx ry ⟨_, _, rfl, rfl, k _ _ _ _ _ q .refl w .int⟩
  · cases r1; cases r2
    exact op_add_str pins s σ H _ _ v u Q I rx ry ⟨_, _, rfl, rfl, q.1, k _ _ _ _ _ q.2 .refl w .str⟩
  · obtain ⟨a, vs, rfl, ha, rs⟩ := tup_at w r1
    obtain ⟨b, us, rfl, hb, rs2⟩ := tup_at w r2
    refine op_catA pins s σ H _ _ v u Q I rx ry ⟨a, b, vs, us, rfl, rfl, ha, hb, by rw [rs.length, rs2.length]; exact q.1, ?_⟩
    have hl := rs.length
    have hl2 := rs2.length
    refine ⟨fun e => ?_, fun _ e => ?_, fun _ _ p hp => ?_⟩
    · subst e
      cases rs
      exact k _ _ _ _ _ q.2 .refl w r2
    · subst e
      cases rs2
      have q2 := q.2
      rw [List.append_nil] at q2
      exact k _ _ _ _ _ q2 .refl w r1
    · exact newT_ok w hp (rs.append rs2) q.2 k
def sub2 : O2
  | .int i, .int j, μ, Q => Q (.int (i - j)) μ
  | _, _, _, _ => False
theorem osub : OpR X (binaryOp .Sub) (lowO2 X.K sub2) := by
  rintro pins s σ H x y v u Q I rx ry ⟨F, μ, d, e, Q0, w, r1, r2, q, k⟩
  cases d <;> cases e <;> first | exact False.elim q | skip
  cases r1; cases r2
  exact op_sub pins s σ H _ _ v u Q I rx ry ⟨_, _, rfl, rfl, k _ _ _ _ _ q .refl w .int⟩
def mul2 : O2
  | .int i, .int j, μ, Q => (CMul i j ∨ CMulW i j) ∧ Q (.int (i * j)) μ
  | .str x, .int n, μ, Q => MulOk x n ∧ Q (.str (Txt.mul x n)) μ
  | x, .int n, μ, Q => ∃ xs, LstAt μ x xs ∧ -(2 ^ 63) ≤ n ∧ n < 2 ^ 63 ∧ xs.length * n.toNat ≤ sizeLine ∧ NewL (List.replicate n.toNat xs).flatten μ Q
  | _, _, _, _ => False
theorem Reps.rep {K : PySem.W.Frag} {F : Hp} {vs : List V} {ds : List D} (h : Reps K F vs ds) : ∀ k : Nat, Reps K F (List.replicate k vs).flatten (List.replicate k ds).flatten
  | 0 => .nil
  | k + 1 => by
    rw [List.replicate_succ, List.replicate_succ, List.flatten_cons, List.flatten_cons]
    exact h.append (Reps.rep h k)
theorem mul_lists {pins : List (Addr × Obj)} {s : Shared} {σ : Sv} {H : Hp} {x y : V} {v u : Value} {Q : VK} {F : Hp} {μ : Mu} {d : D} {n : Int} {Q0 : QE} (I : Inv X pins σ H s) (rx : RelV x v) (ry : RelV y u) (w : Wd X.K F H μ) (r1 : Rep X.K F x d) (r2 : Rep X.K F y (.int n))
    (q : ∃ xs, LstAt μ d xs ∧ -(2 ^ 63) ≤ n ∧ n < 2 ^ 63 ∧ xs.length * n.toNat ≤ sizeLine ∧ NewL (List.replicate n.toNat xs).flatten μ Q0) (k : ∀ d' μ' F' H' v, Q0 d' μ' → Gr F H μ F' H' μ' → Wd X.K F' H' μ' → Rep X.K F' v d' → Q v H') : wpAny (model X.prog X.w) X.A (binaryOp .Mult v u) (EP X pins σ Q) X.xe s := by
  obtain ⟨xs, hx, h1, h2, hl, nl⟩ := q
  obtain ⟨a, vs, rfl, ha, rs⟩ := lst_at w r1 hx
  cases r2
  exact op_rep pins s σ H _ _ v u Q I rx ry ⟨a, n, vs, rfl, rfl, ha, h1, h2, by rw [rs.length]; exact hl, fun p hp => newL_ok w hp (rs.rep _) nl k⟩
theorem op_mul_strI : OpR X (binaryOp .Mult) (fun x y H Q => ∃ i j, x = .str i ∧ y = .int j ∧ MulOk i j ∧ Q (.str (Txt.mul i j)) H) := by
  intro pins s σ H x y v u Q I rx ry h
  obtain ⟨i, j, rfl, rfl, hok, q⟩ := h
  obtain ⟨t, rfl⟩ := rx
  obtain ⟨t', rfl⟩ := ry
  exact SB.mul hok fun t' k => ⟨.str _, H, I.tok _, ⟨_, rfl⟩, q⟩
theorem omul : OpR X (binaryOp .Mult) (lowO2 X.K mul2) := by
  rintro pins s σ H x y v u Q I rx ry ⟨F, μ, d, e, Q0, w, r1, r2, q, k⟩
  cases e <;> first | (cases d <;> exact False.elim q) | skip
  cases d <;> first | exact mul_lists I rx ry w r1 r2 q k | skip
  rotate_left
  · cases r1; cases r2
    exact op_mul_strI pins s σ H _ _ v u Q I rx ry ⟨_, _, rfl, rfl, q.1, k _ _ _ _ _ q.2 .refl w .str⟩
  cases r1; cases r2
  rcases q with ⟨h | h, q⟩
  · exact op_mul pins s σ H _ _ v u Q I rx ry ⟨_, _, rfl, rfl, h, k _ _ _ _ _ q .refl w .int⟩
  · exact op_mulW pins s σ H _ _ v u Q I rx ry ⟨_, _, rfl, rfl, h, k _ _ _ _ _ q .refl w .int⟩
/-- two ints, under a word -/
def int2 (C : Int → Int → Prop) (g : Int → Int → D) : O2
  | .int i, .int j, μ, Q => C i j ∧ Q (g i j) μ
  | _, _, _, _ => False
theorem oint {f : Value → Value → Sem Value} {C : Int → Int → Prop} {g : Int → Int → Int} (h : OpR X f (rI C fun i j => .int (g i j))) : OpR X f (lowO2 X.K (int2 C fun i j => .int (g i j))) := by
  rintro pins s σ H x y v u Q I rx ry ⟨F, μ, d, e, Q0, w, r1, r2, q, k⟩
  cases d <;> cases e <;> first | exact False.elim q | skip
  cases r1; cases r2
  exact h pins s σ H _ _ v u Q I rx ry ⟨_, _, rfl, rfl, q.1, k _ _ _ _ _ q.2 .refl w .int⟩
abbrev fdiv2 : O2 := int2 CDivW fun i j => .int (i / j)
abbrev mod2 : O2 := int2 (fun _ j => 0 < j) fun i j => .int (i % j)
abbrev pow2 : O2 := int2 CPow fun i j => .int (i ^ j.toNat)
abbrev shr2 : O2 := int2 (fun _ j => 0 ≤ j) fun i j => .int (i / 2 ^ j.toNat)
theorem ofdiv : OpR X (binaryOp .FloorDiv) (lowO2 X.K fdiv2) := oint op_fdivW
theorem omod : OpR X (binaryOp .Mod) (lowO2 X.K mod2) := oint op_mod
theorem opow : OpR X (binaryOp .Pow) (lowO2 X.K pow2) := oint op_pow
theorem oshr : OpR X (binaryOp .RShift) (lowO2 X.K shr2) := oint op_shr
def neg1 : O1
  | .int i, μ, Q => Q (.int (-i)) μ
  | _, _, _ => False
theorem oneg : UnR X (unaryOp .USub) (lowO1 X.K neg1) := by
  rintro pins s σ H x v Q I rx ⟨F, μ, d, Q0, w, r1, q, k⟩
  cases d <;> first | exact False.elim q | skip
  cases r1
  exact un_neg pins s σ H _ v Q I rx ⟨_, rfl, k _ _ _ _ _ q .refl w .int⟩

/-! ### comparisons -/
def cmp2 (ci : Int → Int → Bool) (cs : Str → Str → Bool) : O2
  | .int i, .int j, μ, Q => Q (.bl (ci i j)) μ
  | .str x, .str y, μ, Q => Q (.bl (cs x y)) μ
  | _, _, _, _ => False
theorem ocmp {f : Value → Value → Sem Value} {ci : Int → Int → Bool} {cs : Str → Str → Bool} (h : OpR X f (rI0 fun i j => .bl (ci i j))) (h2 : OpR X f (fun x y H Q => ∃ i j, x = .str i ∧ y = .str j ∧ Q (.bl (cs i j)) H)) : OpR X f (lowO2 X.K (cmp2 ci cs)) := by
  rintro pins s σ H x y v u Q I rx ry ⟨F, μ, d, e, Q0, w, r1, r2, q, k⟩
  cases d <;> cases e <;> first | exact False.elim q | skip
  · cases r1; cases r2
    exact h pins s σ H _ _ v u Q I rx ry ⟨_, _, rfl, rfl, k _ _ _ _ _ q .refl w .bl⟩
  · cases r1; cases r2
    exact h2 pins s σ H _ _ v u Q I rx ry ⟨_, _, rfl, rfl, k _ _ _ _ _ q .refl w .bl⟩
abbrev slt (x y : Str) : Bool := decide (x.cps.toList < y.cps.toList)
abbrev lt2 : O2 := cmp2 (fun i j => decide (i < j)) slt
abbrev le2 : O2 := cmp2 (fun i j => decide (i ≤ j)) fun x y => !slt y x
abbrev gt2 : O2 := cmp2 (fun i j => decide (j < i)) fun x y => slt y x
abbrev ge2 : O2 := cmp2 (fun i j => decide (j ≤ i)) fun x y => !slt x y
theorem olt : OpR X (compareOp .Lt) (lowO2 X.K lt2) := ocmp op_lt op_lt_str
theorem ole : OpR X (compareOp .LtE) (lowO2 X.K le2) := ocmp op_le op_le_str
theorem ogt : OpR X (compareOp .Gt) (lowO2 X.K gt2) := ocmp op_gt op_gt_str
theorem oge : OpR X (compareOp .GtE) (lowO2 X.K ge2) := ocmp op_ge op_ge_str

/-! ### data that is compared deeply -/
mutual
def D.py : D → PyData
  | .non => .none
  | .bl b => .bool b
  | .int i => .int i
  | .str x => .str x
  | .tup xs => .tuple (D.pys xs)
  | .lst xs => .list (D.pys xs)
  | .rol xs => .list (D.pys xs)
  | .ty _ => .none
  | .ref _ => .none
  | .dct _ => .none
  | .ins _ _ => .none
def D.pys : List D → List PyData
  | [] => []
  | x :: xs => x.py :: D.pys xs
end
mutual
def D.pl : D → Bool
  | .non => true
  | .bl _ => true
  | .int _ => true
  | .str _ => true
  | .tup xs => D.pls xs
  | .lst xs => D.pls xs
  | .rol xs => D.pls xs
  | .ty _ => false
  | .ref _ => false
  | .dct _ => false
  | .ins _ _ => false
def D.pls : List D → Bool
  | [] => true
  | x :: xs => x.pl && D.pls xs
end
section
variable {K : PySem.W.Frag} {F H : Hp}
mutual
theorem Rep.dp (e : Same F H) {v : V} {d : D} (h : Rep K F v d) (p : d.pl = true) : Dp K H v d.py := by
  cases h with
  | non => exact .non
  | bl => exact .bl _
  | int => exact .int _
  | str => exact .str _
  | ty => simp [D.pl] at p
  | ref => simp [D.pl] at p
  | tup h r => rw [D.py]; exact .tup (sqt_mono e h) (Reps.dp e r (by simpa [D.pl] using p))
  | lst h r => rw [D.py]; exact .lst (SqL.of (e _ _ h)) (Reps.dp e r (by simpa [D.pl] using p))
  | rol h r => rw [D.py]; exact .lst (e.seq h) (Reps.dp e r (by simpa [D.pl] using p))
  | dct h r => simp [D.pl] at p
  | ins h r => simp [D.pl] at p
theorem Reps.dp (e : Same F H) {v : List V} {d : List D} (h : Reps K F v d) (p : D.pls d = true) : DpAll K H v (D.pys d) := by
  cases h with
  | nil => rw [D.pys]; exact .nil
  | cons h r =>
    rw [D.pls, Bool.and_eq_true] at p
    rw [D.pys]
    exact .cons (Rep.dp e h p.1) (Reps.dp e r p.2)
end
end
/-- a value as data: itself, or what stands in a list that may change -/
def Vw (μ : Mu) (x d : D) : Prop := x = d ∨ ∃ a xs, x = .ref a ∧ μ a = some (.lst xs) ∧ d = .lst xs
theorem Vw.f {μ : Mu} {x : D} : Vw μ x x := .inl rfl
theorem Vw.m {μ : Mu} {a : Addr} {xs : List D} (h : μ a = some (.lst xs)) : Vw μ (.ref a) (.lst xs) := .inr ⟨a, xs, rfl, h, rfl⟩
theorem vw_dp {K : PySem.W.Frag} {F H : Hp} {μ : Mu} {v : V} {x d : D} (w : Wd K F H μ) (r : Rep K F v x) (h : Vw μ x d) (p : d.pl = true) : Dp K H v d.py := by
  rcases h with rfl | ⟨a, xs, rfl, h, rfl⟩
  · exact r.dp w.sub p
  · cases r
    obtain ⟨vs, h1, rs⟩ := mlst_at w h
    rw [D.py]
    exact .lst (SqL.of h1) (rs.dp w.sub (by simpa [D.pl] using p))
def eqD (neg : Bool) (x y : D) (μ : Mu) (Q : QE) : Prop := ∃ dx dy, Vw μ x dx ∧ Vw μ y dy ∧ dx.pl = true ∧ dy.pl = true ∧ dx.py.depth ≤ 64 ∧ dy.py.depth ≤ 64 ∧ Q (.bl (neg ^^ PyData.eqv dx.py dy.py)) μ
def eq2 : O2
  | .non, .non, μ, Q => Q (.bl true) μ
  | .non, .int _, μ, Q => Q (.bl false) μ
  | .non, .bl _, μ, Q => Q (.bl false) μ
  | .non, .str _, μ, Q => Q (.bl false) μ
  | .int _, .non, μ, Q => Q (.bl false) μ
  | .int i, .int j, μ, Q => Q (.bl (decide (i = j))) μ
  | .int _, .str _, μ, Q => Q (.bl false) μ
  | .bl _, .non, μ, Q => Q (.bl false) μ
  | .bl i, .bl j, μ, Q => Q (.bl (decide (i = j))) μ
  | .bl _, .str _, μ, Q => Q (.bl false) μ
  | .str _, .non, μ, Q => Q (.bl false) μ
  | .str _, .int _, μ, Q => Q (.bl false) μ
  | .str _, .bl _, μ, Q => Q (.bl false) μ
  | .str i, .str j, μ, Q => Q (.bl (decide (i = j))) μ
  | x, y, μ, Q => eqD false x y μ Q
def ne2 : O2
  | .non, .non, μ, Q => Q (.bl false) μ
  | .non, .int _, μ, Q => Q (.bl true) μ
  | .non, .bl _, μ, Q => Q (.bl true) μ
  | .non, .str _, μ, Q => Q (.bl true) μ
  | .int _, .non, μ, Q => Q (.bl true) μ
  | .int i, .int j, μ, Q => Q (.bl (!decide (i = j))) μ
  | .int _, .str _, μ, Q => Q (.bl true) μ
  | .bl _, .non, μ, Q => Q (.bl true) μ
  | .bl i, .bl j, μ, Q => Q (.bl (!decide (i = j))) μ
  | .bl _, .str _, μ, Q => Q (.bl true) μ
  | .str _, .non, μ, Q => Q (.bl true) μ
  | .str _, .int _, μ, Q => Q (.bl true) μ
  | .str _, .bl _, μ, Q => Q (.bl true) μ
  | .str i, .str j, μ, Q => Q (.bl (!decide (i = j))) μ
  | x, y, μ, Q => eqD true x y μ Q
mutual
theorem pl_plain : ∀ d : D, d.pl = true → d.py.plain = true
  | .non, _ => rfl
  | .bl _, _ => rfl
  | .int _, _ => rfl
  | .str _, _ => rfl
  | .tup xs, h => by
    rw [D.py]
    exact pls_plain xs (by simpa [D.pl] using h)
  | .lst xs, h => by
    rw [D.py]
    exact pls_plain xs (by simpa [D.pl] using h)
  | .rol xs, h => by
    rw [D.py]
    exact pls_plain xs (by simpa [D.pl] using h)
  | .ty _, h => by simp [D.pl] at h
  | .ref _, h => by simp [D.pl] at h
  | .dct _, h => by simp [D.pl] at h
  | .ins _ _, h => by simp [D.pl] at h
theorem pls_plain : ∀ xs : List D, D.pls xs = true → PyData.plainAll (D.pys xs) = true
  | [], _ => rfl
  | x :: r, h => by
    rw [D.pls, Bool.and_eq_true] at h
    rw [D.pys, PyData.plainAll, pl_plain x h.1, pls_plain r h.2]
    rfl
end
theorem eqD_ok (hu : X.A.units + 64 < cLine) {pins : List (Addr × Obj)} {s : Shared} {σ : Sv} {H : Hp} {x y : V} {v u : Value} {Q : VK} {F : Hp} {μ : Mu} {d e : D} {Q0 : QE} (I : Inv X pins σ H s) (rx : RelV x v) (ry : RelV y u) (w : Wd X.K F H μ) (r1 : Rep X.K F x d) (r2 : Rep X.K F y e)
    (q : eqD false d e μ Q0) (k : ∀ d' μ' F' H' v, Q0 d' μ' → Gr F H μ F' H' μ' → Wd X.K F' H' μ' → Rep X.K F' v d' → Q v H') : wpAny (model X.prog X.w) X.A (compareOp .Eq v u) (EP X pins σ Q) X.xe s := by
  obtain ⟨dx, dy, h1, h2, p1, p2, s1, s2, q⟩ := q
  rw [Bool.false_xor] at q
  obtain ⟨as, k1⟩ := Dp.reads I _ x v (vw_dp w r1 h1 p1) rx
  obtain ⟨bs, k2⟩ := Dp.reads I _ y u (vw_dp w r2 h2 p2) ry
  exact SeqAt.eq_plain k1 k2 (pl_plain _ p1) (pl_plain _ p2) (by omega) ⟨.bl _, H, I, rfl, k _ _ _ _ _ q .refl w .bl⟩
theorem neD_ok (hu : X.A.units + 64 < cLine) {pins : List (Addr × Obj)} {s : Shared} {σ : Sv} {H : Hp} {x y : V} {v u : Value} {Q : VK} {F : Hp} {μ : Mu} {d e : D} {Q0 : QE} (I : Inv X pins σ H s) (rx : RelV x v) (ry : RelV y u) (w : Wd X.K F H μ) (r1 : Rep X.K F x d) (r2 : Rep X.K F y e)
    (q : eqD true d e μ Q0) (k : ∀ d' μ' F' H' v, Q0 d' μ' → Gr F H μ F' H' μ' → Wd X.K F' H' μ' → Rep X.K F' v d' → Q v H') : wpAny (model X.prog X.w) X.A (compareOp .NotEq v u) (EP X pins σ Q) X.xe s := by
  obtain ⟨dx, dy, h1, h2, p1, p2, s1, s2, q⟩ := q
  rw [Bool.true_xor] at q
  obtain ⟨as, k1⟩ := Dp.reads I _ x v (vw_dp w r1 h1 p1) rx
  obtain ⟨bs, k2⟩ := Dp.reads I _ y u (vw_dp w r2 h2 p2) ry
  exact SeqAt.ne_plain k1 k2 (pl_plain _ p1) (pl_plain _ p2) (by omega) ⟨.bl _, H, I, rfl, k _ _ _ _ _ q .refl w .bl⟩
theorem oeq (hu : X.A.units + 64 < cLine) : OpR X (compareOp .Eq) (lowO2 X.K eq2) := by
  rintro pins s σ H x y v u Q I rx ry ⟨F, μ, d, e, Q0, w, r1, r2, q, k⟩
  cases d <;> cases e <;> first
    | exact eqD_ok hu I rx ry w r1 r2 q k
    | (cases r1; cases r2; exact op_eq pins s σ H _ _ v u Q I rx ry ⟨rfl, k _ _ _ _ _ (by simpa [eq2] using q) .refl w .bl⟩)
theorem one_ (hu : X.A.units + 64 < cLine) : OpR X (compareOp .NotEq) (lowO2 X.K ne2) := by
  rintro pins s σ H x y v u Q I rx ry ⟨F, μ, d, e, Q0, w, r1, r2, q, k⟩
  cases d <;> cases e <;> first
    | exact neD_ok hu I rx ry w r1 r2 q k
    | (cases r1; cases r2; exact op_ne pins s σ H _ _ v u Q I rx ry ⟨rfl, k _ _ _ _ _ (by simpa [ne2] using q) .refl w .bl⟩)

/-! ### is -/
def is2 (neg : Bool) : O2
  | .bl i, .bl j, μ, Q => Q (.bl (neg ^^ decide (i = j))) μ
  | .non, .non, μ, Q => Q (.bl (neg ^^ true)) μ
  | _, .non, μ, Q => Q (.bl (neg ^^ false)) μ
  | _, _, _, _ => False
theorem Rep.non_iff {K : PySem.W.Frag} {F : Hp} {v : V} {d : D} (r : Rep K F v d) : v = .non ↔ d = .non := by
  cases r <;> simp
theorem ois : OpR X (compareOp .Is) (lowO2 X.K (is2 false)) := by
  rintro pins s σ H x y v u Q I rx ry ⟨F, μ, d, e, Q0, w, r1, r2, q, k⟩
  cases e <;> first | (cases d <;> exact False.elim q) | skip
  · cases r2
    have hn := r1.non_iff
    refine op_isN pins s σ H _ _ v u Q I rx ry ⟨rfl, ?_⟩
    cases d <;> first
      | (rw [decide_eq_true (hn.mpr rfl)]; exact k _ _ _ _ _ q .refl w .bl)
      | (rw [decide_eq_false (fun z => by have := hn.mp z; cases this)]; exact k _ _ _ _ _ q .refl w .bl)
  · cases d <;> first | exact False.elim q | skip
    cases r1; cases r2
    refine op_isBl pins s σ H _ _ v u Q I rx ry ⟨_, _, rfl, rfl, k _ _ _ _ _ ?_ .refl w .bl⟩
    have q' : Q0 (.bl (false ^^ decide (_ = _))) μ := q
    rw [Bool.false_xor] at q'
    exact q'
theorem oisnot : OpR X (compareOp .IsNot) (lowO2 X.K (is2 true)) := by
  rintro pins s σ H x y v u Q I rx ry ⟨F, μ, d, e, Q0, w, r1, r2, q, k⟩
  cases e <;> first | (cases d <;> exact False.elim q) | skip
  · cases r2
    have hn := r1.non_iff
    refine op_notN pins s σ H _ _ v u Q I rx ry ⟨rfl, ?_⟩
    cases d <;> first
      | (rw [decide_eq_true (hn.mpr rfl)]; exact k _ _ _ _ _ q .refl w .bl)
      | (rw [decide_eq_false (fun z => by have := hn.mp z; cases this)]; exact k _ _ _ _ _ q .refl w .bl)
  · cases d <;> first | exact False.elim q | skip
    cases r1; cases r2
    refine op_notBl pins s σ H _ _ v u Q I rx ry ⟨_, _, rfl, rfl, k _ _ _ _ _ ?_ .refl w .bl⟩
    have q' : Q0 (.bl (true ^^ decide (_ = _))) μ := q
    rw [Bool.true_xor] at q'
    exact q'

/-! ### in -/
def eqF : D → D → Bool
  | .non, .non => true
  | .bl a, .bl b => a == b
  | .bl a, .int b => (if a then 1 else 0) == b
  | .int a, .bl b => a == (if b then 1 else 0)
  | .int a, .int b => a == b
  | .str a, .str b => a == b
  | _, _ => false
def inF (x : D) (xs : List D) : Bool := xs.any fun y => eqF y x
theorem Rep.fl {K : PySem.W.Frag} {F : Hp} {v : V} {d : D} (r : Rep K F v d) (h : d.fl = true) : flatV v = true := by
  cases r <;> first | rfl | (simp [D.fl] at h)
theorem Reps.fl {K : PySem.W.Frag} {F : Hp} : ∀ {vs : List V} {ds : List D}, Reps K F vs ds → ds.all D.fl = true → vs.all flatV = true
  | _, _, .nil, _ => rfl
  | _, _, .cons r t, h => by
    rw [List.all_cons, Bool.and_eq_true] at h ⊢
    exact ⟨r.fl h.1, Reps.fl t h.2⟩
theorem Rep.eqF {K : PySem.W.Frag} {F : Hp} {v u : V} {d e : D} (r : Rep K F v d) (r2 : Rep K F u e) (h : d.fl = true) (h2 : e.fl = true) : eqV v u = J.eqF d e := by
  cases r <;> cases r2 <;> first | rfl | (simp [D.fl] at h) | (simp [D.fl] at h2)
theorem Reps.inF {K : PySem.W.Frag} {F : Hp} {x : V} {d : D} (r : Rep K F x d) (h : d.fl = true) : ∀ {vs : List V} {ds : List D}, Reps K F vs ds → ds.all D.fl = true → inV x vs = J.inF d ds
  | _, _, .nil, _ => rfl
  | _, _, .cons q t, hh => by
    rw [List.all_cons, Bool.and_eq_true] at hh
    have ih := Reps.inF r h t hh.2
    unfold inV J.inF at ih ⊢
    rw [List.any_cons, List.any_cons, ih, q.eqF r hh.1 h]
def keyD : D → Option Key
  | .int i => some (.inl i)
  | .str x => some (.inr x)
  | _ => none
theorem keyD_rep {K : PySem.W.Frag} {F : Hp} {v : V} {d : D} {k : Key} (r : Rep K F v d) (h : keyD d = some k) : v = kV k := by
  cases r <;> first | (simp [keyD] at h; done) | (simp [keyD] at h; subst h; rfl)
def valD (kvs : List (Key × D)) (k : Key) : Option D := (kvs.find? fun kv => decide (kv.1 = k)).map (·.2)
def putKD (kvs : List (Key × D)) (k : Key) (v : D) : List (Key × D) :=
  if (kvs.any fun kv => decide (kv.1 = k)) = true then kvs.map fun kv => if kv.1 = k then (kv.1, v) else kv else kvs ++ [(k, v)]
def dropKD (kvs : List (Key × D)) (k : Key) : List (Key × D) := kvs.filter fun kv => decide (kv.1 ≠ k)
section
variable {K : PySem.W.Frag} {F : Hp}
theorem valD_nil {k : Key} : valD [] k = none := rfl
theorem valD_pos {p : Key × D} {r : List (Key × D)} {k : Key} (e : p.1 = k) : valD (p :: r) k = some p.2 := by simp [valD, List.find?_cons, e]
theorem valD_neg {p : Key × D} {r : List (Key × D)} {k : Key} (e : ¬ p.1 = k) : valD (p :: r) k = valD r k := by simp [valD, List.find?_cons, e]
theorem RepK.val (k : Key) : ∀ {kvs : List (Key × V)} {ds : List (Key × D)}, RepK K F kvs ds → (∀ d, valD ds k = some d → ∃ v, valV kvs k = some v ∧ Rep K F v d) ∧ (valD ds k = none → valV kvs k = none)
  | _, _, .nil => ⟨fun _ h => (by simp [valD] at h), fun _ => rfl⟩
  | _, _, .cons (k := k') r t => by
    have ih := RepK.val k t
    by_cases h : k' = k
    · rw [valD_pos (p := (k', _)) h, valV_pos (p := (k', _)) h]
      exact ⟨fun d e => ⟨_, rfl, by cases e; exact r⟩, fun e => by cases e⟩
    · rw [valD_neg (p := (k', _)) h, valV_neg (p := (k', _)) h]
      exact ih
theorem RepK.isSome {kvs : List (Key × V)} {ds : List (Key × D)} (r : RepK K F kvs ds) (k : Key) : (valV kvs k).isSome = (valD ds k).isSome := by
  have h := r.val k
  cases e : valD ds k with
  | none =>
    rw [h.2 e]
    rfl
  | some d =>
    obtain ⟨v, e1, _⟩ := h.1 d e
    rw [e1]
    rfl
theorem RepK.any (k : Key) : ∀ {kvs : List (Key × V)} {ds : List (Key × D)}, RepK K F kvs ds → (kvs.any fun kv => decide (kv.1 = k)) = ds.any fun kv => decide (kv.1 = k)
  | _, _, .nil => rfl
  | _, _, .cons r t => by rw [List.any_cons, List.any_cons, RepK.any k t]
theorem RepK.repl (k : Key) {v : V} {d : D} (r : Rep K F v d) : ∀ {kvs : List (Key × V)} {ds : List (Key × D)}, RepK K F kvs ds → RepK K F (kvs.map fun kv => if kv.1 = k then (kv.1, v) else kv) (ds.map fun kv => if kv.1 = k then (kv.1, d) else kv)
  | _, _, .nil => .nil
  | _, _, .cons (k := k') q t => by
    rw [List.map_cons, List.map_cons]
    by_cases h : k' = k
    · simp only [h, if_true]
      exact .cons r (RepK.repl k r t)
    · simp only [h, if_false]
      exact .cons q (RepK.repl k r t)
theorem RepK.append : ∀ {kvs kws : List (Key × V)} {ds es : List (Key × D)}, RepK K F kvs ds → RepK K F kws es → RepK K F (kvs ++ kws) (ds ++ es)
  | _, _, _, _, .nil, s => s
  | _, _, _, _, .cons r t, s => .cons r (RepK.append t s)
theorem RepK.put {k : Key} {v : V} {d : D} (r : Rep K F v d) {kvs : List (Key × V)} {ds : List (Key × D)} (h : RepK K F kvs ds) : RepK K F (putK kvs k v) (putKD ds k d) := by
  unfold putK putKD
  rw [h.any k]
  split
  · exact h.repl k r
  · exact h.append (.cons r .nil)
theorem RepK.dropK {k : Key} : ∀ {kvs : List (Key × V)} {ds : List (Key × D)}, RepK K F kvs ds → RepK K F (L2.dropK kvs k) (dropKD ds k)
  | _, _, .nil => .nil
  | _, _, .cons (k := k') q t => by
    unfold L2.dropK dropKD
    rw [List.filter_cons, List.filter_cons]
    by_cases h : k' ≠ k
    · rw [if_pos (decide_eq_true h), if_pos (decide_eq_true h)]
      exact .cons q (RepK.dropK t)
    · rw [if_neg (by simpa using h), if_neg (by simpa using h)]
      exact RepK.dropK t
theorem RepK.length : ∀ {kvs : List (Key × V)} {ds : List (Key × D)}, RepK K F kvs ds → kvs.length = ds.length
  | _, _, .nil => rfl
  | _, _, .cons _ t => congrArg (· + 1) (RepK.length t)
end
def keyV : Key → D
  | .inl i => .int i
  | .inr x => .str x
theorem keyV_rep {K : PySem.W.Frag} {F : Hp} (k : Key) : Rep K F (kV k) (keyV k) := by
  cases k with
  | inl i => exact .int
  | inr x => exact .str
theorem RepK.keys {K : PySem.W.Frag} {F : Hp} : ∀ {kvs : List (Key × V)} {ds : List (Key × D)}, RepK K F kvs ds → Reps K F (kvs.map fun kv => kV kv.1) (ds.map fun kv => keyV kv.1)
  | _, _, .nil => .nil
  | _, _, .cons (k := k) _ t => .cons (keyV_rep k) (RepK.keys t)

def in2 (neg : Bool) (x y : D) (μ : Mu) (Q : QE) : Prop :=
  (∃ xs, (SeqAt μ y xs ∨ y = .tup xs) ∧ x.fl = true ∧ xs.all D.fl = true ∧ Q (.bl (neg ^^ inF x xs)) μ) ∨
  (∃ i c j, x = .str ⟨#[i]⟩ ∧ y = .str j ∧ c = decide (i ∈ j.cps.toList) ∧ Q (.bl (neg ^^ c)) μ) ∨
  (∃ kvs k, DctAt μ y kvs ∧ keyD x = some k ∧ Q (.bl (neg ^^ (valD kvs k).isSome)) μ) ∨
  (∃ i j, x = .str i ∧ y = .str j ∧ Q (.bl (neg ^^ !(Builtin.Str.occurrences j i 0 j.length 1).isEmpty)) μ) ∨
  (∃ t xs, x = .str t ∧ SeqAt μ y xs ∧ xs.all D.any = true ∧ Q (.bl (neg ^^ xs.any (isS t))) μ)
theorem oin (hu : X.A.units + 1 < cLine) : OpR X (compareOp .In) (lowO2 X.K (in2 false)) := by
  rintro pins s σ H x y v u Q I rx ry ⟨F, μ, d, e, Q0, w, r1, r2, q, k⟩
  rcases q with ⟨xs, hs, h1, h2, q⟩ | ⟨i, c, j, rfl, rfl, rfl, q⟩ | ⟨kvs, kk, h1, h2, q⟩ | ⟨i, j, rfl, rfl, q⟩ | ⟨t, xs, rfl, hs, h2, q⟩
  · rw [Bool.false_xor] at q
    rcases hs with hs | rfl
    · obtain ⟨a, vs, rfl, ha, rs⟩ := seq_at w r2 hs
      refine op_in_seq pins s σ H _ _ v u Q I rx ry ⟨a, vs, rfl, .inl ha, r1.fl h1, rs.fl h2, ?_⟩
      rw [rs.inF r1 h1 h2]
      exact k _ _ _ _ _ q .refl w .bl
    · obtain ⟨a, vs, rfl, ha, rs⟩ := tup_at w r2
      refine op_in_seq pins s σ H _ _ v u Q I rx ry ⟨a, vs, rfl, .inr ha, r1.fl h1, rs.fl h2, ?_⟩
      rw [rs.inF r1 h1 h2]
      exact k _ _ _ _ _ q .refl w .bl
  · rw [Bool.false_xor] at q
    cases r1; cases r2
    exact op_in_sign pins s σ H _ _ v u Q I rx ry ⟨i, j, rfl, rfl, k _ _ _ _ _ q .refl w .bl⟩
  · rw [Bool.false_xor] at q
    obtain ⟨a, vs, rfl, ha, rs⟩ := dct_at w r2 h1
    cases (show u = Value.ref a from ry)
    have e1 := keyD_rep r1 h2
    subst e1
    refine d_in hu I (DGet.k ha) rx fun s' I' => ⟨.bl _, H, I', rfl, ?_⟩
    rw [rs.isSome]
    exact k _ _ _ _ _ q .refl w .bl
  · rw [Bool.false_xor] at q
    cases r1; cases r2
    exact op_in_str pins s σ H _ _ v u Q I rx ry ⟨i, j, rfl, rfl, k _ _ _ _ _ q .refl w .bl⟩
  · rw [Bool.false_xor] at q
    cases r1
    obtain ⟨tk, rfl⟩ := rx
    obtain ⟨a, vs, rfl, ha, rs⟩ := seq_at w r2 hs
    cases ry
    obtain ⟨its, rv, pl, hz⟩ := I.list ha
    obtain ⟨h3, h4⟩ := vals_eqAt (A := X.A.in1) I (by show X.A.units + 1 < cLine; exact hu) w t tk rs rv h2
    refine SeqAt.in_listAt (eqU (.str t)) pl.isList (fun w hw => h3 w (by simpa using hw)) ⟨.bl _, H, I, rfl, ?_⟩
    rw [show its.toArray.any (eqU (.str t)) = its.any (eqU (.str t)) by simp, h4]
    exact k _ _ _ _ _ q .refl w .bl
theorem onotin (hu : X.A.units + 1 < cLine) : OpR X (compareOp .NotIn) (lowO2 X.K (in2 true)) := by
  rintro pins s σ H x y v u Q I rx ry ⟨F, μ, d, e, Q0, w, r1, r2, q, k⟩
  rcases q with ⟨xs, hs, h1, h2, q⟩ | ⟨i, c, j, rfl, rfl, rfl, q⟩ | ⟨kvs, kk, h1, h2, q⟩ | ⟨i, j, rfl, rfl, q⟩ | ⟨t, xs, rfl, hs, h2, q⟩
  · rw [Bool.true_xor] at q
    rcases hs with hs | rfl
    · obtain ⟨a, vs, rfl, ha, rs⟩ := seq_at w r2 hs
      refine op_notIn_seq pins s σ H _ _ v u Q I rx ry ⟨a, vs, rfl, .inl ha, r1.fl h1, rs.fl h2, ?_⟩
      rw [rs.inF r1 h1 h2]
      exact k _ _ _ _ _ q .refl w .bl
    · obtain ⟨a, vs, rfl, ha, rs⟩ := tup_at w r2
      refine op_notIn_seq pins s σ H _ _ v u Q I rx ry ⟨a, vs, rfl, .inr ha, r1.fl h1, rs.fl h2, ?_⟩
      rw [rs.inF r1 h1 h2]
      exact k _ _ _ _ _ q .refl w .bl
  · rw [Bool.true_xor] at q
    cases r1; cases r2
    exact op_notIn_sign pins s σ H _ _ v u Q I rx ry ⟨i, j, rfl, rfl, k _ _ _ _ _ q .refl w .bl⟩
  · rw [Bool.true_xor] at q
    obtain ⟨a, vs, rfl, ha, rs⟩ := dct_at w r2 h1
    cases (show u = Value.ref a from ry)
    have e1 := keyD_rep r1 h2
    subst e1
    refine d_notIn hu I (DGet.k ha) rx fun s' I' => ⟨.bl _, H, I', rfl, ?_⟩
    rw [rs.isSome]
    exact k _ _ _ _ _ q .refl w .bl
  · rw [Bool.true_xor] at q
    cases r1; cases r2
    exact op_notin_str pins s σ H _ _ v u Q I rx ry ⟨i, j, rfl, rfl, k _ _ _ _ _ q .refl w .bl⟩
  · rw [Bool.true_xor] at q
    cases r1
    obtain ⟨tk, rfl⟩ := rx
    obtain ⟨a, vs, rfl, ha, rs⟩ := seq_at w r2 hs
    cases ry
    obtain ⟨its, rv, pl, hz⟩ := I.list ha
    obtain ⟨h3, h4⟩ := vals_eqAt (A := X.A.in1) I (by show X.A.units + 1 < cLine; exact hu) w t tk rs rv h2
    refine SeqAt.notIn_listAt (eqU (.str t)) pl.isList (fun w hw => h3 w (by simpa using hw)) ⟨.bl _, H, I, rfl, ?_⟩
    rw [show its.toArray.any (eqU (.str t)) = its.any (eqU (.str t)) by simp, h4]
    exact k _ _ _ _ _ q .refl w .bl

/-! ### o[i] -/
def ix2 (x y : D) (μ : Mu) (Q : QE) : Prop :=
  (∃ xs i d, (SeqAt μ x xs ∨ x = .tup xs) ∧ y = .int i ∧ atI xs i = some d ∧ Q d μ) ∨
  (∃ z i c, x = .str z ∧ y = .int i ∧ z.length ≤ sizeLine ∧ atI z.cps.toList i = some c ∧ Q (.str ⟨#[c]⟩) μ) ∨
  (∃ kvs k d, DctAt μ x kvs ∧ keyD y = some k ∧ valD kvs k = some d ∧ Q d μ)
theorem ix_dict (hu : X.A.units + 1 < cLine) : IxR X (fun x y H Q => ∃ a v, x = .ref a ∧ DGet H a y (some v) ∧ Q v H) := by
  rintro value slice pins s σ H x y v u Q I rx ry ⟨a, d, rfl, g, q⟩ hs
  cases (show v = Value.ref a from rx)
  have hT := dict_typeIs I g
  unfold subscriptTail
  refine wpAny_bind ?_
  rw [getitemInPython_of_ne hT.not_modules]
  refine wpAny_bind (wpAny_specialOf hT PySem.F.slot_dict_getitem.lookup ?_)
  have h2 : wpAny (model X.prog X.w) X.A (getItem (.ref a) u) (EP X pins σ Q) X.xe s := d_getItem hu I g ry fun w' s3 I3 rw' => ⟨d, H, I3, rw', q⟩
  have fin : wpAny (model X.prog X.w) X.A (subscripted slice false (.ref a) u) (fun r s3 => wpAny (model X.prog X.w) X.A (letTemporaryGo value (.ref a) r >>= fun _ => pure r) (EP X pins σ Q) X.xe s3) X.xe s := by
    rw [hs]
    exact wpAny_operating (wpAny_mono h2 (fun r s3 h3 => wpAny_bind (wpAny_letTemporaryGo (wpAny_pure h3))) fun _ _ x => x)
  first
    | exact wpAny_pure (wpAny_bind fin)
    | exact wpAny_bind (wpAny_pure (wpAny_bind fin))
    | exact wpAny_bind fin
theorem oix (hu : X.A.units + 1 < cLine) : IxR X (lowO2 X.K ix2) := by
  rintro value slice pins s σ H x y v u Q I rx ry ⟨F, μ, d, e, Q0, w, r1, r2, q, k⟩ hs
  rcases q with ⟨xs, i, z, hx, rfl, ha, q⟩ | ⟨z, i, c, rfl, rfl, hz, ha, q⟩ | ⟨kvs, kk, z, h1, h2, h3, q⟩
  · cases r2
    rcases hx with hx | rfl
    · obtain ⟨a, vs, rfl, hl, rs⟩ := seq_at w r1 hx
      obtain ⟨zv, hzv, rz⟩ := atI_rep rs ha
      exact ix_list value slice pins s σ H _ _ v u Q I rx ry ⟨a, vs, i, zv, rfl, rfl, hl, hzv, k _ _ _ _ _ q .refl w rz⟩ hs
    · obtain ⟨a, vs, rfl, hl, rs⟩ := tup_at w r1
      obtain ⟨zv, hzv, rz⟩ := atI_rep rs ha
      exact ix_tup value slice pins s σ H _ _ v u Q I rx ry ⟨a, vs, i, zv, rfl, rfl, hl, hzv, k _ _ _ _ _ q .refl w rz⟩ hs
  · cases r1; cases r2
    exact ix_str value slice pins s σ H _ _ v u Q I rx ry ⟨z, i, c, rfl, rfl, hz, ha, k _ _ _ _ _ q .refl w .str⟩ hs
  · obtain ⟨a, vs, rfl, hl, rs⟩ := dct_at w r1 h1
    have e1 := keyD_rep r2 h2
    subst e1
    obtain ⟨zv, hzv, rz⟩ := (rs.val kk).1 z h3
    exact ix_dict hu value slice pins s σ H _ _ v u Q I rx ry ⟨a, zv, rfl, by rw [← hzv]; exact DGet.k hl, k _ _ _ _ _ q .refl w rz⟩ hs
end
end J

/-! ### list(reversed(list)), at the library's level -/
namespace J
open PySem PySem.Spec PyProof.Rows RT
section
variable {prog : Program} {w : World} {A : Around} {E : Value → Shared → Prop} {s : Shared}
theorem ext_rev {R : Result → Shared → Prop} {it l : Addr} {items : Array Value} (hh : A.handled = none) (hit : s.heap.IsRevIter it l ((items.size : Int) - 1)) (hl : s.heap.IsList l items) (hne : l ≠ it) (hn : items.size ≤ sizeLine) (S : Addr) (res : Value) (c₀ : Nat)
    (hS : s.heap.get? S = some { cls := .type "list", data := .seq #[] c₀ }) (hSl : S ≠ l) (hSi : S ≠ it)
    (hR : ∀ h' tk acc' c', (∀ b o, b ≠ S → b ≠ it → s.heap.get? b = some o → h'.get? b = some o) → h'.get? S = some { cls := .type "list", dict := none, data := .seq acc' c', slots := #[] } →
      ItemsOf (fun i v => items[items.size - 1 - i]? = some v) acc' items.size → R (.ok (.ret res)) { s with heap := h', toks := tk }) :
    wpAny (model prog w) A.in1 (Builtin.List.listExtendWith (.ref S) (.ref it) res)
      (fun fin s' => match fin with | .done f => R (.ok f) s' | .again c' => c'.quiet = true ∧ codeAny (model prog w) A c' R s') (fun e s' => R (.error e) s') s := by
  have W := (Walks.listRev (prog := prog) (w := w) (A := A.in1) hh it l hne items).toS
  have hSf : S ∉ [it, l] := by simp only [List.mem_cons, List.not_mem_nil, or_false, not_or]; exact ⟨hSi, hSl⟩
  have hT : s.TypeIs (.ref it) "list_reverseiterator" := Heap.IsRevIter.typeIs hit
  have h1 : Builtin.List.listSameRef (.ref S) (.ref it) = false := by simp [Builtin.List.listSameRef, hSi]
  unfold Builtin.List.listExtendWith
  refine wpAny_bind (wpAny_typeOf hT ?_)
  rw [if_neg (by rw [h1]; decide)]
  refine wpAny_bind (wpAny_pyIter_revIter hit ?_)
  refine wpAny_bind (wpAny_holding ?_)
  unfold Builtin.List.listLengthHint
  refine wpAny_bind (wpAny_specialOf hT nolen_lri ?_)
  show wpAny _ A.in1 (specialOf (Value.ref it) (Str.ofString "__length_hint__") >>= _) _ _ _
  refine wpAny_bind (wpAny_specialOf hT hint_lri ?_)
  generalize hid : ("list_reverseiterator.__length_hint__" : String) = id0
  wp_delta
  rw [show splitId id0 = some ("list_reverseiterator", "__length_hint__") from by subst hid; decide +kernel]
  subst hid
  refine wpAny_bind (wpAny_isInstance (b := true) hT (by rw [isSubtype_type]; kernel_rfl) ?_)
  refine wpAny_pure ?_
  rw [if_neg (by decide)]
  have e0 : ((items.size : Nat) : Int) - 1 - ((0 : Nat) : Int) = (items.size : Int) - 1 := by omega
  refine wpAny_pure ⟨plainId_quiet F.plain_extend_loop _, codeAny_extend_loopS W hn S hSf res items.size 0 _ _ c₀ rfl (Nat.zero_le _) ⟨Nat.zero_le _, by rw [e0]; exact hit, hl⟩ hS (ItemsOf.nil _) fun s' acc' c' hm hS' hacc => ?_⟩
  rw [Moved.eq_with hm]
  refine hR s'.heap s'.toks acc' c' (fun b o hb hb2 e => hm.heap b o (fun hmem => ?_) e) hS' hacc
  rcases List.mem_cons.mp hmem with e' | hmem
  · exact hb e'
  · exact hb2 (List.mem_singleton.mp hmem)
theorem init_rev {R : Result → Shared → Prop} {it l : Addr} {items : Array Value} (hh : A.handled = none) (hit : s.heap.IsRevIter it l ((items.size : Int) - 1)) (hl : s.heap.IsList l items) (hne : l ≠ it) (hn : items.size ≤ sizeLine) (S : Addr)
    (hS : s.heap.get? S = some { cls := .type "list", data := .seq #[] }) (hSl : S ≠ l) (hSi : S ≠ it)
    (hR : ∀ h' tk acc' c', (∀ b o, b ≠ S → b ≠ it → s.heap.get? b = some o → h'.get? b = some o) → h'.get? S = some { cls := .type "list", dict := none, data := .seq acc' c', slots := #[] } →
      ItemsOf (fun i v => items[items.size - 1 - i]? = some v) acc' items.size → R (.ok (.ret .none)) { s with heap := h', toks := tk }) :
    wpAny (model prog w) A.in1 (Builtin.«list.__init__» ⟨[.ref S, .ref it], []⟩)
      (fun fin s' => match fin with | .done f => R (.ok f) s' | .again c' => c'.quiet = true ∧ codeAny (model prog w) A c' R s') (fun e s' => R (.error e) s') s := by
  show wpAny _ _ (do let old ← Builtin.List.listItems (.ref S); Builtin.List.listUpdate (.ref S) (fun _ => #[]); letGo old.toList.reverse; Builtin.List.listExtendWith (.ref S) (.ref it) .none) _ _ s
  refine wpAny_bind ?_
  unfold Builtin.List.listItems
  refine wpAny_bind (wpAny_seqItems hS rfl (wpAny_pure ?_))
  show wpAny _ _ (updateSeq S (fun _ => #[]) >>= fun _ => letGo (#[] : Array Value).toList.reverse >>= fun _ => Builtin.List.listExtendWith (.ref S) (.ref it) .none) _ _ s
  refine wpAny_bind (wpAny_updateSeq hS rfl ?_)
  have hS₂ := Heap.get?_update_self (Obj.mapSeq (fun _ => (#[] : Array Value))) hS rfl
  have oth : ∀ b o, b ≠ S → s.heap.get? b = some o → (s.heap.update S (Obj.mapSeq (fun _ => (#[] : Array Value)))).get? b = some o :=
    fun b o hb e => (Heap.get?_update_other _ _ (Ne.symm hb)).trans e
  refine wpAny_bind (wpAny_letGo ?_)
  obtain ⟨ol, hol, c1, n1, d1⟩ := hl
  refine ext_rev (items := items) hh (hit.at fun o e => oth it o (Ne.symm hSi) e) ⟨ol, oth l ol (Ne.symm hSl) hol, c1, n1, d1⟩ hne hn S .none _ hS₂ hSl hSi fun h' tk acc' c' hk hS' hacc => ?_
  exact hR h' tk acc' c' (fun b o hb hb2 e => hk b o hb hb2 (oth b o hb e)) hS' hacc
theorem call_list_rev {it l : Addr} {items : Array Value} {Q : Value → Shared → Prop} (hh : A.handled = none) (hit : s.heap.IsRevIter it l ((items.size : Int) - 1)) (hl : s.heap.IsList l items) (hne : l ≠ it) (hn : items.size ≤ sizeLine)
    (hQ : ∀ h' tk acc' c', (∀ b o, b ≠ it → s.heap.get? b = some o → h'.get? b = some o) →
      h'.get? s.heap.objs.size = some { cls := .type "list", dict := none, data := .seq acc' c', slots := #[] } → ItemsOf (fun i v => items[items.size - 1 - i]? = some v) acc' items.size → Q (.ref s.heap.objs.size) { s with heap := h', toks := tk }) :
    wpAny (model prog w) A (call (.type "list") [.ref it]) Q E s := by
  refine callType_codes (Q₁ := fun obj s₁ => obj = .ref s.heap.objs.size ∧ s₁ = { s with heap := s.heap.push { cls := .type "list", data := .seq #[] } }) F.called_list (F.typeCall_list_1 _) F.entry_list_init
    (code_list_new _ ⟨rfl, rfl⟩) fun obj s₁ h₁ => ?_
  obtain ⟨rfl, rfl⟩ := h₁
  have hS : (s.heap.push { cls := .type "list", data := .seq #[] }).get? s.heap.objs.size = some { cls := .type "list", data := .seq #[] } := Heap.get?_push_size _ rfl
  obtain ⟨oi, hoi, _⟩ := id hit
  obtain ⟨ol, hol, _⟩ := id hl
  refine ⟨⟨_, hS, rfl⟩, F.args_list_init_2 _ _, init_rev (A := A.in1) hh (hit.at fun o e => Heap.get?_push_of_some _ e) (hl.push _) hne hn _ hS (Nat.ne_of_gt (Heap.lt_size hol)) (Nat.ne_of_gt (Heap.lt_size hoi)) fun h' tk acc' c' hk hS' hacc => ?_⟩
  exact ⟨rfl, hQ h' tk acc' c' (fun b o hb e => hk b o (Nat.ne_of_lt (Heap.lt_size e)) hb (Heap.get?_push_of_some _ e)) hS' hacc⟩
end
end J

namespace J
open PySem PySem.Spec PyProof.Rows L2
section
variable {X : Cx} {Z : Zw}
def tLstRev (K : PySem.W.Frag) (te : TE) : TE := fun σ H Q => te σ H fun v H1 => ∃ (a : Addr) (xs : List V), v = .ref a ∧ SqL K H1 a xs ∧ ∀ q, H1 q = none → Q (.ref q) (upd H1 q (.lst xs.reverse))
theorem pe_lstRev {e : Expr} {te : TE} {p p2 pos pos2 : Pos} (hc : X.calm = true) (hg : Gl X "list") (hm : X.mg "list" = none) (hg2 : Gl X "reversed") (hm2 : X.mg "reversed" = none) (he : PE X e te)
    (hs : starEach [e] X.env = (false, eval e X.env) :: starEach [] X.env := by rfl)
    (hs2 : starEach [.Call (.Name "reversed" p2) [e] [] pos2] X.env = (false, eval (.Call (.Name "reversed" p2) [e] [] pos2) X.env) :: starEach [] X.env := by rfl) :
    PE X (.Call (.Name "list" p) [.Call (.Name "reversed" p2) [e] [] pos2] [] pos) (tLstRev X.K te) := by
  refine ⟨fun pins s σ H Q I h => ?_⟩
  refine Call_ (ld_blt I hg hm boot_list (PyProof.Rows.callWith_type1 (args_cons (Call_ (ld_blt I hg2 hm2 PyProof.Rows.boot_reversed (PyProof.Rows.callWith_type1 (args_cons (thn (he.run pins s σ H _ I h) fun u s1 ⟨v, H1, I1, r1, q1⟩ => args_nil ?_) hs) hs rfl))) hs2) hs2 rfl))
  obtain ⟨a, xs, ev, hq, q⟩ := q1
  subst ev
  obtain rfl : u = Value.ref a := r1
  obtain ⟨its, rv, p', hz⟩ := I1.list hq
  refine call_reversed_list p'.isList (args_nil ?_)
  have k0 : ∀ b o, s1.heap.get? b = some o → (s1.heap.push (revObj a ((its.toArray.size : Int) - 1))).get? b = some o := fun b o e => Heap.get?_push_of_some _ e
  have I2 : Inv X pins σ H1 { s1 with heap := s1.heap.push (revObj a ((its.toArray.size : Int) - 1)) } := I1.kept (t' := s1.toks) k0
  have hl := p'.isList
  obtain ⟨ol, hol, _⟩ := id hl
  have hne : a ≠ s1.heap.objs.size := Nat.ne_of_lt (Heap.lt_size hol)
  have hn : its.toArray.size ≤ sizeLine := by rw [List.size_toArray, ← rv.length]; exact hz
  refine call_list_rev (s := { s1 with heap := s1.heap.push (revObj a ((its.toArray.size : Int) - 1)) }) (I1.ok.hd hc) ⟨_, Heap.get?_push_size _ rfl, rfl, rfl⟩ (hl.push _) hne hn fun h' tk acc c' hk hS hi => ?_
  have hf2 : H1 (s1.heap.push (revObj a ((its.toArray.size : Int) - 1))).objs.size = none := I2.hok.fresh (Nat.le_refl _)
  have hsz : s1.heap.objs.size ≠ (s1.heap.push (revObj a ((its.toArray.size : Int) - 1))).objs.size := Nat.ne_of_lt (Heap.lt_size (Heap.get?_push_size _ rfl))
  have hfp : ∀ b ∈ [s1.heap.objs.size], FpOk X pins H1 b := fun b hb => by
    have eb : b = s1.heap.objs.size := by simpa using hb
    subst eb
    exact I1.fpOk (H' := H1) (b := s1.heap.objs.size) (Nat.le_refl _) (I1.hok.fresh (Nat.le_refl _))
  refine ⟨.ref _, upd H1 (s1.heap.push (revObj a ((its.toArray.size : Int) - 1))).objs.size (.lst xs.reverse), I2.turnedNew (t' := tk) (h' := h') (ch := [s1.heap.objs.size]) (ob := .lst xs.reverse) (fun b o hb e => hk b o (fun z => hb (by simp [z])) e) hfp (Nat.le_refl _) ?_, rfl, q _ hf2⟩
  exact ⟨by rw [List.length_reverse]; exact hz, acc.toList, c', RT.vals_rev rv hi, by rw [Array.toArray_toList]; exact hS⟩
end
end J

/-! J6a: sorted over data that are alike. -/
namespace J
open PySem PySem.Spec PyProof.Rows L2
open PySem.W (AllAlike Sortable EachIs dataLt dataLe alike)
section
variable {X : Cx}
theorem pys_map : ∀ xs : List D, D.pys xs = xs.map D.py
  | [] => by rw [D.pys]; rfl
  | x :: xs => by rw [D.pys, pys_map xs]; rfl
theorem pls_all : ∀ xs : List D, D.pls xs = xs.all D.pl
  | [] => by rw [D.pls]; rfl
  | x :: xs => by rw [D.pls, pls_all xs]; rfl
/-- in no descending order -/
def Asc (ys : List D) : Prop := ys.Pairwise fun a b => dataLt b.py a.py = false
def sortedX (x : D) (μ : Mu) (Q : QE) : Prop := ∃ xs, SeqAt μ x xs ∧ xs.all D.pl = true ∧ AllAlike (xs.map D.py) ∧ Sortable (xs.map D.py) ∧ (∀ d ∈ xs, d.py.depth ≤ 60) ∧ ∀ ys : List D, ys.Perm xs → Asc ys → NewL ys μ Q
theorem each_zip {K : PySem.W.Frag} {F : Hp} : ∀ {vs : List V} {xs : List D} {us : List Value}, Reps K F vs xs → Vals vs us → EachIs (fun (u : Value) (b : V × D) => RelV b.1 u) us (vs.zip xs) ∧ (vs.zip xs).map (fun b => b.2.py) = xs.map D.py ∧ (vs.zip xs).map Prod.snd = xs ∧ ∀ b ∈ vs.zip xs, Rep K F b.1 b.2
  | _, _, _, .nil, .nil => ⟨.nil, rfl, rfl, fun b h => by simp at h⟩
  | _, _, _, .cons r rs, .cons rv rvs => by
    obtain ⟨h1, h2, h3, h4⟩ := each_zip rs rvs
    refine ⟨.cons rv h1, by rw [List.zip_cons_cons, List.map_cons, List.map_cons, h2], by rw [List.zip_cons_cons, List.map_cons, h3], fun b hb => ?_⟩
    rw [List.zip_cons_cons] at hb
    rcases List.mem_cons.mp hb with rfl | hb
    · exact r
    · exact h4 b hb
theorem each_read {pins : List (Addr × Obj)} {σ : Sv} {H F : Hp} {s : Shared} (I : Inv X pins σ H s) (e : Same F H) : ∀ {vs : List V} {xs : List D} {us : List Value}, Reps X.K F vs xs → Vals vs us → xs.all D.pl = true → EachIs (fun (u : Value) (b : V × D) => ∃ as, Reads s.heap u b.2.py as) us (vs.zip xs)
  | _, _, _, .nil, .nil, _ => .nil
  | _, _, _, .cons r rs, .cons rv rvs, h => by
    rw [List.all_cons, Bool.and_eq_true] at h
    exact .cons (Dp.reads I _ _ _ (r.dp e h.1) rv) (each_read I e rs rvs h.2)
theorem each_vals {K : PySem.W.Frag} {F : Hp} : ∀ {bs : List (V × D)} {us : List Value}, EachIs (fun (u : Value) (b : V × D) => RelV b.1 u) us bs → (∀ b ∈ bs, Rep K F b.1 b.2) → Vals (bs.map Prod.fst) us ∧ Reps K F (bs.map Prod.fst) (bs.map Prod.snd)
  | _, _, .nil, _ => ⟨.nil, .nil⟩
  | b :: bs, _, .cons h1 t, h => by
    obtain ⟨h2, h3⟩ := each_vals t fun b hb => h b (List.mem_cons_of_mem _ hb)
    exact ⟨.cons h1 h2, .cons (h b (List.mem_cons_self ..)) h3⟩
theorem cr_sortedX {pins : List (Addr × Obj)} {σ : Sv} {H F : Hp} {s : Shared} {μ : Mu} {v : V} {x : D} {u : Value} {Q0 : QE} {Q : VK} (hu : X.A.units + 65 < cLine) (I : Inv X pins σ H s) (ru : RelV v u) (w : Wd X.K F H μ) (r : Rep X.K F v x) (q : sortedX x μ Q0) (k : ∀ d' μ' F' H' v, Q0 d' μ' → Gr F H μ F' H' μ' → Wd X.K F' H' μ' → Rep X.K F' v d' → Q v H') :
    wpAny (model X.prog X.w) X.A (call (.builtin "sorted") [u]) (EP X pins σ Q) X.xe s := by
  obtain ⟨xs, hx, hp, ha, hs, hd, q⟩ := q
  obtain ⟨a, vs, rfl, hl, rs⟩ := seq_at w r hx
  cases ru
  obtain ⟨its, rv, pl, hz⟩ := I.list hl
  obtain ⟨e1, e2, e3, e4⟩ := each_zip rs rv
  have hlen : (vs.zip xs).length ≤ sizeLine := by
    have := congrArg List.length e3
    rw [List.length_map] at this
    rw [this, ← rs.length]
    exact hz
  refine PySem.W.sorted_data (enc := fun b : V × D => b.2.py) (bs := vs.zip xs) pl.isList e1 (each_read I w.sub rs rv hp) (by rw [e2]; exact ha) (by rw [e2]; exact hs) hlen (fun b hb => ?_) fun out ho eo => ?_
  · have hm : b.2 ∈ xs := by rw [← e3]; exact List.mem_map.mpr ⟨b, hb, rfl⟩
    have := hd _ hm
    omega
  · have hperm := List.mergeSort_perm (vs.zip xs) (dataLe false fun b : V × D => b.2.py)
    obtain ⟨h2, h3⟩ := each_vals (K := X.K) (F := F) eo fun b hb => e4 b (hperm.mem_iff.mp hb)
    have hpw := PySem.W.sort_pairwise (PySem.W.sortLe_total (listOrd itemOrd) false fun b : V × D => PySem.W.keyToks b.2.py) (vs.zip xs)
    obtain ⟨ep, he'⟩ := PyProof.Rows.sortedAll_at s.heap its out.toArray
    have hlen2 : (((vs.zip xs).mergeSort (dataLe false fun b : V × D => b.2.py)).map Prod.fst).length ≤ sizeLine := by
      rw [List.length_map, hperm.length_eq]
      exact hlen
    have hq := q (((vs.zip xs).mergeSort (dataLe false fun b : V × D => b.2.py)).map Prod.snd) (by
      have := hperm.map Prod.snd
      rw [e3] at this
      exact this) (List.pairwise_map.mpr (hpw.imp fun {a b} h => by
        have h : (!dataLt b.2.py a.2.py) = true := h
        simpa using h))
    have hfresh := I.hok.fresh (Nat.le_succ s.heap.objs.size)
    exact ⟨.ref _, upd H (s.heap.objs.size + 1) (.lst _), I.laid (t' := s.toks) (fun _ _ => PyProof.Rows.sortedAll_old) (Nat.le_succ _) ⟨hlen2, out, ep, h2, he'⟩, rfl, newL_ok w hfresh h3 hq k⟩
end
end J

/-! J6b: min, max of two texts. -/
namespace J
open PySem PySem.Spec PyProof.Rows L2
section
variable {prog : Program} {w : World} {A : Around} {E : Value → Shared → Prop} {s : Shared}
def sOf : Value → Str
  | .str x _ => x
  | _ => Str.empty
def two (a b : Value) (i : Nat) (v : Value) : Prop := (#[a, b] : Array Value)[i]? = some v
def twoS (x y : Str) (i : Nat) : Str := if i = 0 then x else y
theorem two_at {x y : Str} {t u : Tok} {i : Nat} {v : Value} (h : two (.str x t) (.str y u) i v) : ∃ k, v = .str (twoS x y i) k := by
  unfold two at h
  match i, h with
  | 0, h => exact ⟨t, (Option.some.inj h).symm⟩
  | 1, h => exact ⟨u, (Option.some.inj h).symm⟩
  | i + 2, h => simp at h
theorem two_lt {x y : Str} {t u : Tok} : CmpOf prog w A .Lt (two (.str x t) (.str y u)) (fun i j => decide ((twoS x y i).cps.toList < (twoS x y j).cps.toList)) := fun i j vi vj s Q E hi hj h => by
  obtain ⟨t, rfl⟩ := two_at hi
  obtain ⟨u, rfl⟩ := two_at hj
  exact richCompare_gives (op := .Lt) (typeIs_str s _ t) (typeIs_str s _ u) F.slot_str_lt F.entry_str_lt (F.args_str_lt_2 _ _) (gives_str_lt _ _ t u) (fun x => nomatch x) h
theorem two_gt {x y : Str} {t u : Tok} : CmpOf prog w A .Gt (two (.str x t) (.str y u)) (fun i j => decide ((twoS x y j).cps.toList < (twoS x y i).cps.toList)) := fun i j vi vj s Q E hi hj h => by
  obtain ⟨t, rfl⟩ := two_at hi
  obtain ⟨u, rfl⟩ := two_at hj
  exact richCompare_gives (op := .Gt) (typeIs_str s _ t) (typeIs_str s _ u) F.slot_str_gt F.entry_str_gt (F.args_str_gt_2 _ _) (gives_str_gt _ _ t u) (fun x => nomatch x) h
theorem min_two_strs {x y : Str} {t u : Tok} {Q : Value → Shared → Prop} (hh : A.handled = none)
    (h : ∀ h' tk, (∀ c o, s.heap.get? c = some o → h'.get? c = some o) → Q (if y.cps.toList < x.cps.toList then .str y u else .str x t) { s with heap := h', toks := tk }) :
    wpAny (model prog w) A (call (.builtin "min") [.str x t, .str y u]) Q E s := by
  have hT : (s.heap.push { cls := .type "tuple", data := .seq #[.str x t, .str y u] }).IsTuple s.heap.objs.size #[.str x t, .str y u] := ⟨_, Heap.get?_push_size _ rfl, rfl, 0, rfl⟩
  refine call_min_two (wpAny_pyIter_tuple hT ?_)
  have hsz : (s.heap.push { cls := .type "tuple", data := .seq #[.str x t, .str y u] }).objs.size = s.heap.objs.size + 1 := Heap.size_push ..
  refine ⟨_, [_, s.heap.objs.size], [_], _, _, _, _, rfl, Walks.tuple (A := A.in1) hh _ s.heap.objs.size (by rw [hsz]; exact Nat.ne_of_lt (Nat.lt_succ_self _)) #[.str x t, .str y u],
    ⟨⟨_, Heap.get?_push_size _ rfl, rfl, rfl⟩, hT.push _⟩, fun c hc => ?_, by simp, two_lt, fun v h' tk hP hk => ?_⟩
  · show c < ((s.heap.push _).push _).objs.size
    rw [Heap.size_push, hsz]
    rcases List.mem_cons.mp hc with rfl | hc
    · rw [hsz]; exact Nat.lt_succ_self _
    · rcases List.mem_cons.mp hc with rfl | hc
      · exact Nat.lt_succ_of_lt (Nat.lt_succ_self _)
      · cases hc
  · have hold : ∀ c o, s.heap.get? c = some o → h'.get? c = some o := fun c o e => by
      refine hk c o (fun hm => ?_) (Heap.get?_push_of_some _ (Heap.get?_push_of_some _ e))
      rcases List.mem_cons.mp hm with e1 | hm
      · have := Heap.lt_size e; rw [e1, hsz] at this; exact Nat.lt_irrefl _ (Nat.lt_of_succ_lt this)
      · cases hm
    have := h h' tk hold
    have hv : v = if y.cps.toList < x.cps.toList then Value.str y u else Value.str x t := by
      have hP' : (#[Value.str x t, .str y u] : Array Value)[argBest (fun i j => decide ((twoS x y i).cps.toList < (twoS x y j).cps.toList)) 1]? = some v := hP
      by_cases hba : y.cps.toList < x.cps.toList
      · have e : argBest (fun i j => decide ((twoS x y i).cps.toList < (twoS x y j).cps.toList)) 1 = 1 := by simp [argBest, twoS, hba]
        rw [e] at hP'
        rw [if_pos hba]
        exact (Option.some.inj hP').symm
      · have e : argBest (fun i j => decide ((twoS x y i).cps.toList < (twoS x y j).cps.toList)) 1 = 0 := by simp [argBest, twoS, hba]
        rw [e] at hP'
        rw [if_neg hba]
        exact (Option.some.inj hP').symm
    rw [hv]; exact this
theorem max_two_strs {x y : Str} {t u : Tok} {Q : Value → Shared → Prop} (hh : A.handled = none)
    (h : ∀ h' tk, (∀ c o, s.heap.get? c = some o → h'.get? c = some o) → Q (if x.cps.toList < y.cps.toList then .str y u else .str x t) { s with heap := h', toks := tk }) :
    wpAny (model prog w) A (call (.builtin "max") [.str x t, .str y u]) Q E s := by
  have hT : (s.heap.push { cls := .type "tuple", data := .seq #[.str x t, .str y u] }).IsTuple s.heap.objs.size #[.str x t, .str y u] := ⟨_, Heap.get?_push_size _ rfl, rfl, 0, rfl⟩
  refine call_max_two (wpAny_pyIter_tuple hT ?_)
  have hsz : (s.heap.push { cls := .type "tuple", data := .seq #[.str x t, .str y u] }).objs.size = s.heap.objs.size + 1 := Heap.size_push ..
  refine ⟨_, [_, s.heap.objs.size], [_], _, _, _, _, rfl, Walks.tuple (A := A.in1) hh _ s.heap.objs.size (by rw [hsz]; exact Nat.ne_of_lt (Nat.lt_succ_self _)) #[.str x t, .str y u],
    ⟨⟨_, Heap.get?_push_size _ rfl, rfl, rfl⟩, hT.push _⟩, fun c hc => ?_, by simp, two_gt, fun v h' tk hP hk => ?_⟩
  · show c < ((s.heap.push _).push _).objs.size
    rw [Heap.size_push, hsz]
    rcases List.mem_cons.mp hc with rfl | hc
    · rw [hsz]; exact Nat.lt_succ_self _
    · rcases List.mem_cons.mp hc with rfl | hc
      · exact Nat.lt_succ_of_lt (Nat.lt_succ_self _)
      · cases hc
  · have hold : ∀ c o, s.heap.get? c = some o → h'.get? c = some o := fun c o e => by
      refine hk c o (fun hm => ?_) (Heap.get?_push_of_some _ (Heap.get?_push_of_some _ e))
      rcases List.mem_cons.mp hm with e1 | hm
      · have := Heap.lt_size e; rw [e1, hsz] at this; exact Nat.lt_irrefl _ (Nat.lt_of_succ_lt this)
      · cases hm
    have := h h' tk hold
    have hv : v = if x.cps.toList < y.cps.toList then Value.str y u else Value.str x t := by
      have hP' : (#[Value.str x t, .str y u] : Array Value)[argBest (fun i j => decide ((twoS x y j).cps.toList < (twoS x y i).cps.toList)) 1]? = some v := hP
      by_cases hba : x.cps.toList < y.cps.toList
      · have e : argBest (fun i j => decide ((twoS x y j).cps.toList < (twoS x y i).cps.toList)) 1 = 1 := by simp [argBest, twoS, hba]
        rw [e] at hP'
        rw [if_pos hba]
        exact (Option.some.inj hP').symm
      · have e : argBest (fun i j => decide ((twoS x y j).cps.toList < (twoS x y i).cps.toList)) 1 = 0 := by simp [argBest, twoS, hba]
        rw [e] at hP'
        rw [if_neg hba]
        exact (Option.some.inj hP').symm
    rw [hv]; exact this
end
open PySem.W (AlikeAll minD maxD min_list_data min_tuple_data max_list_data max_tuple_data dataLt_str)
def minS (s : Str) (ss : List Str) : Str := ss.foldl (fun a y => if y.cps.toList < a.cps.toList then y else a) s
def maxS (s : Str) (ss : List Str) : Str := ss.foldl (fun a y => if a.cps.toList < y.cps.toList then y else a) s
theorem minD_strs : ∀ (ss : List Str) (s : Str), minD (.str s) (ss.map PyData.str) = .str (minS s ss)
  | [], s => rfl
  | y :: ss, s => by
    show minD (if PySem.W.dataLt (.str y) (.str s) = true then .str y else .str s) (ss.map PyData.str) = .str (minS (if y.cps.toList < s.cps.toList then y else s) ss)
    rw [dataLt_str]
    by_cases h : y.cps.toList < s.cps.toList
    · rw [decide_eq_true h, if_pos rfl, if_pos h]
      exact minD_strs ss y
    · rw [decide_eq_false h, if_neg Bool.false_ne_true, if_neg h]
      exact minD_strs ss s
theorem maxD_strs : ∀ (ss : List Str) (s : Str), maxD (.str s) (ss.map PyData.str) = .str (maxS s ss)
  | [], s => rfl
  | y :: ss, s => by
    show maxD (if PySem.W.dataLt (.str s) (.str y) = true then .str y else .str s) (ss.map PyData.str) = .str (maxS (if s.cps.toList < y.cps.toList then y else s) ss)
    rw [dataLt_str]
    by_cases h : s.cps.toList < y.cps.toList
    · rw [decide_eq_true h, if_pos rfl, if_pos h]
      exact maxD_strs ss y
    · rw [decide_eq_false h, if_neg Bool.false_ne_true, if_neg h]
      exact maxD_strs ss s
theorem alike_strs (ss : List Str) : AlikeAll (ss.map PyData.str) := ⟨fun x hx y hy => by
  obtain ⟨a, _, rfl⟩ := List.mem_map.mp hx
  obtain ⟨b, _, rfl⟩ := List.mem_map.mp hy
  simp [PySem.W.alike], fun x hx => by
  obtain ⟨a, _, rfl⟩ := List.mem_map.mp hx
  exact fun e => by cases e⟩
theorem depth_strs : ∀ ss : List Str, PyData.depthAll (ss.map PyData.str) ≤ 1
  | [] => by simp [PyData.depthAll]
  | s :: ss => by
    have := depth_strs ss
    simp only [List.map_cons, PyData.depthAll, PyData.depth]
    omega
section
variable {X : Cx}
def SqS (μ : Mu) (x : D) (ss : List Str) : Prop := SeqAt μ x (ss.map D.str) ∨ x = .tup (ss.map D.str)
def minX (x : D) (μ : Mu) (Q : QE) : Prop := ∃ s ss, SqS μ x (s :: ss) ∧ Q (.str (minS s ss)) μ
def maxX (x : D) (μ : Mu) (Q : QE) : Prop := ∃ s ss, SqS μ x (s :: ss) ∧ Q (.str (maxS s ss)) μ
theorem sqs_at {pins : List (Addr × Obj)} {σ : Sv} {H F : Hp} {s : Shared} {μ : Mu} {v : V} {x : D} {u : Value} {ss : List Str} (I : Inv X pins σ H s) (ru : RelV v u) (w : Wd X.K F H μ) (r : Rep X.K F v x) (h : SqS μ x ss) :
    ∃ a its as, u = .ref a ∧ (s.heap.IsList a its ∨ s.heap.IsTuple a its) ∧ ReadsAll s.heap its.toList (ss.map PyData.str) as := by
  have e : D.pys (ss.map D.str) = ss.map PyData.str := by
    rw [pys_map, List.map_map]
    rfl
  have hp : D.pls (ss.map D.str) = true := by
    rw [pls_all]
    exact List.all_eq_true.mpr fun x hx => by
      obtain ⟨a, _, rfl⟩ := List.mem_map.mp hx
      rfl
  rcases h with h | rfl
  · obtain ⟨a, vs, rfl, ha, rs⟩ := seq_at w r h
    cases ru
    obtain ⟨its, rv, pl, hz⟩ := I.list ha
    obtain ⟨as, hr⟩ := Dp.readsAll I _ _ _ (rs.dp w.sub hp) rv
    rw [e] at hr
    exact ⟨a, its.toArray, as, rfl, .inl pl.isList, hr⟩
  · obtain ⟨a, vs, rfl, ha, rs⟩ := tup_at w r
    cases ru
    obtain ⟨its, rv, pl, hz⟩ := I.tuple ha
    obtain ⟨as, hr⟩ := Dp.readsAll I _ _ _ (rs.dp w.sub hp) rv
    rw [e] at hr
    exact ⟨a, its.toArray, as, rfl, .inr pl, hr⟩
theorem cr_minX {pins : List (Addr × Obj)} {σ : Sv} {H F : Hp} {s : Shared} {μ : Mu} {v : V} {x : D} {u : Value} {Q0 : QE} {Q : VK} (hc : X.calm = true) (hu : X.A.units + 65 < cLine) (I : Inv X pins σ H s) (ru : RelV v u) (w : Wd X.K F H μ) (r : Rep X.K F v x) (q : minX x μ Q0) (k : ∀ d' μ' F' H' v, Q0 d' μ' → Gr F H μ F' H' μ' → Wd X.K F' H' μ' → Rep X.K F' v d' → Q v H') :
    wpAny (model X.prog X.w) X.A (call (.builtin "min") [u]) (EP X pins σ Q) X.xe s := by
  obtain ⟨t, ss, hs, q⟩ := q
  obtain ⟨a, its, as, rfl, hl, hr⟩ := sqs_at I ru w r hs
  have hd := depth_strs (t :: ss)
  have go : ∀ (i : Nat) (v : Value) (h' : Heap) (tk : Nat) (bs : List Addr), its[i]? = some v → Reads h' v (minD (.str t) (ss.map PyData.str)) bs → (∀ b o, s.heap.get? b = some o → h'.get? b = some o) → EP X pins σ Q v { s with heap := h', toks := tk } := by
    intro i v h' tk bs _ hr' hk
    rw [minD_strs] at hr'
    cases hr' with
    | str _ tok => exact ⟨.str (minS t ss), H, I.kept hk, ⟨_, rfl⟩, k _ _ _ _ _ q .refl w .str⟩
  rcases hl with hl | hl
  · exact min_list_data (I.ok.hd hc) hl hr (alike_strs (t :: ss)) (by have e : PyData.depthAll (PyData.str t :: ss.map PyData.str) ≤ 1 := hd; omega) go
  · exact min_tuple_data (I.ok.hd hc) hl hr (alike_strs (t :: ss)) (by have e : PyData.depthAll (PyData.str t :: ss.map PyData.str) ≤ 1 := hd; omega) go
theorem cr_maxX {pins : List (Addr × Obj)} {σ : Sv} {H F : Hp} {s : Shared} {μ : Mu} {v : V} {x : D} {u : Value} {Q0 : QE} {Q : VK} (hc : X.calm = true) (hu : X.A.units + 65 < cLine) (I : Inv X pins σ H s) (ru : RelV v u) (w : Wd X.K F H μ) (r : Rep X.K F v x) (q : maxX x μ Q0) (k : ∀ d' μ' F' H' v, Q0 d' μ' → Gr F H μ F' H' μ' → Wd X.K F' H' μ' → Rep X.K F' v d' → Q v H') :
    wpAny (model X.prog X.w) X.A (call (.builtin "max") [u]) (EP X pins σ Q) X.xe s := by
  obtain ⟨t, ss, hs, q⟩ := q
  obtain ⟨a, its, as, rfl, hl, hr⟩ := sqs_at I ru w r hs
  have hd := depth_strs (t :: ss)
  have go : ∀ (i : Nat) (v : Value) (h' : Heap) (tk : Nat) (bs : List Addr), its[i]? = some v → Reads h' v (maxD (.str t) (ss.map PyData.str)) bs → (∀ b o, s.heap.get? b = some o → h'.get? b = some o) → EP X pins σ Q v { s with heap := h', toks := tk } := by
    intro i v h' tk bs _ hr' hk
    rw [maxD_strs] at hr'
    cases hr' with
    | str _ tok => exact ⟨.str (maxS t ss), H, I.kept hk, ⟨_, rfl⟩, k _ _ _ _ _ q .refl w .str⟩
  rcases hl with hl | hl
  · exact max_list_data (I.ok.hd hc) hl hr (alike_strs (t :: ss)) (by have e : PyData.depthAll (PyData.str t :: ss.map PyData.str) ≤ 1 := hd; omega) go
  · exact max_tuple_data (I.ok.hd hc) hl hr (alike_strs (t :: ss)) (by have e : PyData.depthAll (PyData.str t :: ss.map PyData.str) ≤ 1 := hd; omega) go
end
end J

/-! J6c: sorted(d) of a dict of texts, any number of them. -/
namespace J
open PySem PySem.Spec PyProof.Rows L2
section
variable {prog : Program} {w : World} {A : Around} {E : Value → Shared → Prop} {s : Shared}
def ltSv (v u : Value) : Bool := decide ((sOf v).cps.toList < (sOf u).cps.toList)
theorem swo_str : SrtO.Swo ltSv := by
  refine ⟨fun x y h => ?_, fun x y z h1 h2 => ?_⟩
  · have a : (sOf x).cps.toList < (sOf y).cps.toList := of_decide_eq_true h
    exact decide_eq_false (List.lt_asymm a)
  · have a : (sOf x).cps.toList ≤ (sOf y).cps.toList := List.not_lt.mp (of_decide_eq_false h1)
    have b : (sOf y).cps.toList ≤ (sOf z).cps.toList := List.not_lt.mp (of_decide_eq_false h2)
    exact decide_eq_false (List.not_lt.mpr (List.le_trans a b))
theorem strs_mem : ∀ {vs : List Value} {ss : List Str}, StrsAre vs ss → ∀ v ∈ vs, ∃ x t, v = Value.str x t
  | _, _, .nil, v, h => absurd h (by simp)
  | _, _, .cons n t r, v, h => by
    rcases List.mem_cons.mp h with e | h
    · exact ⟨n, t, e⟩
    · exact strs_mem r v h
theorem strs_sOf : ∀ {vs : List Value}, (∀ v ∈ vs, ∃ x t, v = Value.str x t) → StrsAre vs (vs.map sOf)
  | [], _ => .nil
  | v :: vs, h => by
    obtain ⟨i, t, e⟩ := h v List.mem_cons_self
    subst e
    exact .cons i t (strs_sOf fun u hu => h u (List.mem_cons_of_mem _ hu))
theorem sOf_strs : ∀ {vs : List Value} {ss : List Str}, StrsAre vs ss → vs.map sOf = ss
  | _, _, .nil => rfl
  | _, _, .cons n t r => congrArg (n :: ·) (sOf_strs r)
theorem str_cmp {vs : List Value} {ss : List Str} (hI : StrsAre vs ss) : SrtO.Cmp prog w A s oneType' (fun p => p.1 ∈ vs) (SrtO.lt2 ltSv) := by
  intro p q hm hm'
  obtain ⟨a, t, e⟩ := strs_mem hI _ hm
  obtain ⟨b, u, e'⟩ := strs_mem hI _ hm'
  show wpAny (model prog w) A (keyLt' oneType' p.1 q.1) (fun r s' => s' = s ∧ r = ltSv p.1 q.1) (fun _ _ => False) s
  rw [e, e', keyLt'_oneType]
  exact oneLt_str ⟨rfl, rfl⟩
theorem strs_sortable {a : Addr} {vs : List Value} {ss : List Str} (hI : StrsAre vs ss) (h2 : 2 ≤ vs.length) : SrtO.SortableO prog w A s a vs ltSv := by
  intro h' _
  refine ⟨oneType', fun Q E hq => ?_, str_cmp hI⟩
  match vs, hI, h2 with
  | v1 :: v2 :: rest, hI, _ =>
    rw [keyKind_strs hI]
    exact wpAny_pure hq
  | [], _, h => exact absurd h (by decide)
  | [v], _, h => exact absurd h (by simp)
theorem strs_out {vs out : List Value} {ss : List Str} (hI : StrsAre vs ss) (hs : SrtO.Srtd ltSv out) (hb : SrtO.Stb ltSv out vs) : StrsAre out (out.map sOf) ∧ (out.map sOf).Perm ss ∧ sortedS (out.map sOf) = true := by
  refine ⟨strs_sOf fun v hv => strs_mem hI v (hb.perm.mem_iff.mp hv), ?_, ?_⟩
  · have q := hb.perm.map sOf
    rw [sOf_strs hI] at q
    exact q
  · refine sortedS_of_pairwise _ (List.pairwise_map.mpr (hs.imp fun {x y} h => ?_))
    rw [ltCps_eq]
    exact h
end
section
variable {X : Cx}
theorem call_sortedDA (hcalm : X.calm = true) : CallR X (.builtin "sorted") (fun xs H Q => ∃ (a : Addr) (kvs : List (Key × V)) (ks : List Str), xs = [.ref a] ∧ Rd H a (.dK kvs) ∧ kvs.map (·.1) = ks.map Sum.inr ∧
    ∀ ys p, ys.Perm ks → sortedS ys = true → H p = none → Q (.ref p) (upd H p (.lst (ys.map V.str)))) := by
  intro pins s σ H xs us Q I r q
  obtain ⟨a, kvs, ks, ex, hd, hks, q⟩ := q
  subst ex
  obtain ⟨u, eu, rx⟩ := vals1 r
  subst eu
  cases rx
  obtain ⟨z, lo, vs, rel, dd⟩ := dk_rd I.hok hd
  obtain ⟨ep, hat⟩ := dd.dictAt
  have hkeys : vs.map (·.1) = ks.map Sum.inr := rel.keys.symm.trans hks
  have hl : vs.length = ks.length := by
    have e := congrArg List.length hkeys
    rw [List.length_map, List.length_map] at e
    exact e
  have hl2 : kvs.length = ks.length := by
    have e := congrArg List.length hks
    rw [List.length_map, List.length_map] at e
    exact e
  have h16 : vs.length ≤ sizeLine := by rw [hl, ← hl2]; exact z
  refine Calls.call_function_entry PyProof.Rows.kind_sorted PyProof.Rows.plain_sorted PyProof.Rows.entry_sorted (PyProof.Rows.args_sorted1 _) ?_
  unfold Builtin.«sorted»
  refine wpAny_bind (m := checkCount "sorted" 1 1 _) (wpAny_pure ?_)
  refine wpAny_bind (PySem.W.kdu_collect (A := X.A.in1) (PySem.W.kdl_dict (knd := mixKind X.prog X.w) (kvs := vs) (ep := ep) lo) (I.ok.hd hcalm) hat h16 fun h' tk acc hk hacc => ?_)
  have hal : acc.toList.length = ks.length := by rw [Array.length_toList, hacc.1, hl]
  have hS : StrsAre acc.toList ks := strs_at hal fun j v e => by
    obtain ⟨k, x, e1, e2⟩ := hacc.2 j v (by rw [← Array.getElem?_toList]; exact e)
    have e3 : (vs.map (·.1))[j]? = some k := by rw [List.getElem?_map, e1]; all_goals rfl
    rw [hkeys, List.getElem?_map] at e3
    cases e4 : ks[j]? with
    | none => rw [e4] at e3; cases e3
    | some y =>
      rw [e4] at e3
      have e5 : Sum.inr y = k := Option.some.inj e3
      subst e5
      obtain ⟨t, ev⟩ := Value.isStrOf_shape (x := y) (v := v) e2
      exact ⟨y, t, rfl, ev⟩
  have I1 : Inv X pins σ H { s with heap := h', toks := tk } := I.kept hk
  have hz : acc.toList.length ≤ sizeLine := by rw [hal, ← hl2]; exact z
  refine wpAny_bind (wpAny_newList ?_ hz)
  have hoL : (h'.push (seqObj "list" acc.toList.toArray 0)).get? h'.objs.size = some (seqObj "list" acc.toList.toArray 0) := Heap.get?_push_size _ rfl
  show wpAny _ _ _ _ _ { s with heap := h'.push (seqObj "list" acc.toList.toArray 0), toks := tk }
  refine wpAny_bind (wpAny_holding (wpAny_call_entry PyProof.Rows.slot_list_sort ⟨_, hoL, rfl⟩ PyProof.Rows.entry_list_sort
    (SrtO.list_sort_ord swo_str (s := { s with heap := h'.push (seqObj "list" acc.toList.toArray 0), toks := tk }) hoL hz (fun h2 => strs_sortable hS h2) fun out hs hb => ⟨_, rfl, ?_⟩)
    (PyProof.Rows.args_list_sort _)))
  obtain ⟨g1, g2, g3⟩ := strs_out hS hs hb
  obtain ⟨e', he'⟩ := PyProof.Rows.sortedHeap_at (vs := acc.toList) (out := out.toArray) hoL
  have hlen : ((out.map sOf).map V.str).length ≤ sizeLine := by
    rw [List.length_map, g2.length_eq, ← hl2]
    exact z
  refine wpAny_pure ⟨_, rfl, .ref h'.objs.size, upd H h'.objs.size (.lst ((out.map sOf).map V.str)), I1.laid (t' := tk) (fun b u e => ?_) (Nat.le_refl _)
    (show ObjOk X.prog X.w _ _ _ (.lst ((out.map sOf).map V.str)) from ⟨hlen, out, e', vals_of_strs g1, he'⟩), rfl, q _ _ g2 g3 (I1.hok.fresh (Nat.le_refl _))⟩
  have hb : b < h'.objs.size := Heap.lt_size e
  rw [PyProof.Rows.sortedHeap_old (Nat.ne_of_lt hb) (by rw [size_push']; exact Nat.lt_succ_of_lt hb)]
  exact Heap.get?_push_of_some _ e
/-- sorted(xs), xs a list or a tuple of texts, any number of them -/
theorem call_sortedSq (hcalm : X.calm = true) : CallR X (.builtin "sorted") (fun xs H Q => ∃ (a : Addr) (ks : List Str), xs = [.ref a] ∧ (SqL X.K H a (ks.map V.str) ∨ SqT X.K H a (ks.map V.str)) ∧
    ∀ ys p, ys.Perm ks → sortedS ys = true → H p = none → Q (.ref p) (upd H p (.lst (ys.map V.str)))) := by
  intro pins s σ H xs us Q I r q
  obtain ⟨a, ks, ex, hd, q⟩ := q
  subst ex
  obtain ⟨u, eu, rx⟩ := vals1 r
  subst eu
  cases rx
  obtain ⟨its, T, o, n, rv, hT, ho, hc, hdat, hz⟩ : ∃ (its : List Value) (T : String) (o : Obj) (n : Nat), Vals (ks.map V.str) its ∧ (T = "list" ∨ T = "tuple") ∧ s.heap.get? a = some o ∧ o.cls = .type T ∧ o.data = .seq its.toArray n ∧ its.length ≤ sizeLine := by
    rcases hd with hd | hd
    · obtain ⟨its, rv, pl, hz⟩ := I.list hd
      obtain ⟨o, ho, hc, n, hdat⟩ := pl.isList
      exact ⟨its, "list", o, n, rv, .inl rfl, ho, hc, hdat, by rw [← rv.length]; exact hz⟩
    · obtain ⟨its, rv, ⟨o, ho, hc, n, hdat⟩, hz⟩ := I.tuple hd
      exact ⟨its, "tuple", o, n, rv, .inr rfl, ho, hc, hdat, by rw [← rv.length]; exact hz⟩
  refine Calls.call_function_entry PyProof.Rows.kind_sorted PyProof.Rows.plain_sorted PyProof.Rows.entry_sorted (PyProof.Rows.args_sorted1 _) ?_
  unfold Builtin.«sorted»
  refine wpAny_bind (m := checkCount "sorted" 1 1 _) (wpAny_pure ?_)
  refine wpAny_bind (wpAny_collect_seq (A := X.A.in1) a hT ho hc hdat (fun h' hk => ?_) (by rw [List.size_toArray]; exact hz))
  have hS : StrsAre its.toArray.toList ks := by
    rw [List.toList_toArray]
    exact rv.strs
  have I1 : Inv X pins σ H { s with heap := h', toks := s.toks } := I.kept hk
  have hz2 : its.toArray.toList.length ≤ sizeLine := by rw [List.toList_toArray]; exact hz
  refine wpAny_bind (wpAny_newList ?_ hz2)
  have hoL : (h'.push (seqObj "list" its.toArray.toList.toArray 0)).get? h'.objs.size = some (seqObj "list" its.toArray.toList.toArray 0) := Heap.get?_push_size _ rfl
  show wpAny _ _ _ _ _ { s with heap := h'.push (seqObj "list" its.toArray.toList.toArray 0), toks := s.toks }
  refine wpAny_bind (wpAny_holding (wpAny_call_entry PyProof.Rows.slot_list_sort ⟨_, hoL, rfl⟩ PyProof.Rows.entry_list_sort
    (SrtO.list_sort_ord swo_str (s := { s with heap := h'.push (seqObj "list" its.toArray.toList.toArray 0), toks := s.toks }) hoL hz2 (fun h2 => strs_sortable hS h2) fun out hs hb => ⟨_, rfl, ?_⟩)
    (PyProof.Rows.args_list_sort _)))
  obtain ⟨g1, g2, g3⟩ := strs_out hS hs hb
  obtain ⟨e', he'⟩ := PyProof.Rows.sortedHeap_at (vs := its.toArray.toList) (out := out.toArray) hoL
  have hlen : ((out.map sOf).map V.str).length ≤ sizeLine := by
    have e1 := rv.length
    rw [List.length_map] at e1
    rw [List.length_map, g2.length_eq, e1]
    exact hz
  refine wpAny_pure ⟨_, rfl, .ref h'.objs.size, upd H h'.objs.size (.lst ((out.map sOf).map V.str)), I1.laid (t' := s.toks) (fun b u e => ?_) (Nat.le_refl _)
    (show ObjOk X.prog X.w _ _ _ (.lst ((out.map sOf).map V.str)) from ⟨hlen, out, e', vals_of_strs g1, he'⟩), rfl, q _ _ g2 g3 (I1.hok.fresh (Nat.le_refl _))⟩
  have hb : b < h'.objs.size := Heap.lt_size e
  rw [PyProof.Rows.sortedHeap_old (Nat.ne_of_lt hb) (by rw [size_push']; exact Nat.lt_succ_of_lt hb)]
  exact Heap.get?_push_of_some _ e
end
end J

namespace J
open PySem PySem.Spec PyProof.Rows L2
section
variable {X : Cx} {Z : Zw}
theorem jlistRev {e : Expr} {te : TE2} {p p2 pos pos2 : Pos} (hc : X.calm = true) (hg : Gl X "list") (hm : X.mg "list" = none) (hg2 : Gl X "reversed") (hm2 : X.mg "reversed" = none) (he : E2 X Z e te)
    (hs : starEach [e] X.env = (false, eval e X.env) :: starEach [] X.env := by rfl)
    (hs2 : starEach [.Call (.Name "reversed" p2) [e] [] pos2] X.env = (false, eval (.Call (.Name "reversed" p2) [e] [] pos2) X.env) :: starEach [] X.env := by rfl) :
    E2 X Z (.Call (.Name "list" p) [.Call (.Name "reversed" p2) [e] [] pos2] [] pos) (jUn (fun x μ Q => ∃ xs, SeqAt μ x xs ∧ NewL xs.reverse μ Q) te) := by
  refine pe_imp (pe_lstRev hc hg hm hg2 hm2 he hs hs2) ?_
  rintro σ H Q ⟨F, δ, μ, Q0, m, q, k⟩
  refine ⟨F, δ, μ, _, m, q, ?_⟩
  rintro x μ1 F1 H1 v ⟨xs, hx, n⟩ g1 w1 r1
  obtain ⟨a, vs, rfl, ha, rs⟩ := seq_at w1 r1 hx
  exact ⟨a, vs, rfl, ha, fun q hq => newL_ok w1 hq rs.reverse n (tr k g1)⟩

/-! ### calls of built-ins -/
theorem jcallF {x : Str} {id : String} {r : OA} {e : Expr} {es : List Expr} {t : TA2} {p pos : Pos} (hc : CallR X (.builtin id) (lowOA X.K r)) (hg : Gl X x) (hm : X.mg x = none) (hv : bootBuiltins x = some (.builtin id)) (ha : A2 X Z (e :: es) t)
    (hn : x ≠ "__name__" := by decide) (hdb : (x == ("__debug__" : Str)) = false := by decide) (he : starEach (e :: es) X.env = (false, eval e X.env) :: starEach es X.env := by rfl) (hpl : (backTo pos (starEach es X.env)).any (·.1) = false := by rfl) :
    E2 X Z (.Call (.Name x p) (e :: es) [] pos) (jCB r t) := pe_imp (pe_callB hc hg hm hv ha hn hdb he hpl) fun _ _ _ q => low_cb q
theorem jcallT {x : Str} {T : String} {r : OA} {e : Expr} {es : List Expr} {t : TA2} {p pos : Pos} (hc : CallR X (.type T) (lowOA X.K r)) (hg : Gl X x) (hm : X.mg x = none) (hv : bootBuiltins x = some (.type T)) (ha : A2 X Z (e :: es) t)
    (hn : x ≠ "__name__" := by decide) (hdb : (x == ("__debug__" : Str)) = false := by decide) (he : starEach (e :: es) X.env = (false, eval e X.env) :: starEach es X.env := by rfl) (hpl : (backTo pos (starEach es X.env)).any (·.1) = false := by rfl) :
    E2 X Z (.Call (.Name x p) (e :: es) [] pos) (jCB r t) := pe_imp (pe_callTy hc hg hm hv ha hn hdb he hpl) fun _ _ _ q => low_cb q

def len1 : OA
  | [.str z], μ, Q => z.length ≤ sizeLine ∧ Q (.int z.length) μ
  | [.tup xs], μ, Q => Q (.int xs.length) μ
  | [.lst xs], μ, Q => Q (.int xs.length) μ
  | [.rol xs], μ, Q => Q (.int xs.length) μ
  | [.dct xs], μ, Q => Q (.int xs.length) μ
  | [.ref a], μ, Q => (∃ xs, μ a = some (.lst xs) ∧ Q (.int xs.length) μ) ∨ ∃ xs, μ a = some (.dct xs) ∧ Q (.int xs.length) μ
  | _, _, _ => False
theorem Reps.one {K : PySem.W.Frag} {F : Hp} {vs : List V} {d : D} (r : Reps K F vs [d]) : ∃ v, vs = [v] ∧ Rep K F v d := by
  cases r with
  | cons r t => cases t; exact ⟨_, rfl, r⟩
theorem Reps.two {K : PySem.W.Frag} {F : Hp} {vs : List V} {d e : D} (r : Reps K F vs [d, e]) : ∃ v u, vs = [v, u] ∧ Rep K F v d ∧ Rep K F u e := by
  cases r with
  | cons r t =>
    cases t with
    | cons r2 t => cases t; exact ⟨_, _, rfl, r, r2⟩
theorem len_seq {pins : List (Addr × Obj)} {s : Shared} {σ : Sv} {H : Hp} {a : Addr} {vs : List V} {us : List Value} {Q : VK} (I : Inv X pins σ H s) (r : Vals [.ref a] us) (h : SqL X.K H a vs ∨ SqT X.K H a vs) (q : Q (.int vs.length) H) :
    wpAny (model X.prog X.w) X.A (call (.builtin "len") us) (EP X pins σ Q) X.xe s := call_len_seq pins s σ H _ us Q I r ⟨a, vs, rfl, h, q⟩
theorem call_lenD2 {pins : List (Addr × Obj)} {s : Shared} {σ : Sv} {H : Hp} {a : Addr} {kvs : List (Key × V)} {us : List Value} {Q : VK} (I : Inv X pins σ H s) (r : Vals [.ref a] us) (h : H a = some (.dK kvs)) (q : Q (.int kvs.length) H) :
    wpAny (model X.prog X.w) X.A (call (.builtin "len") us) (EP X pins σ Q) X.xe s := by
  rw [Vals.ref1 r]
  exact d_len I (.inl h) fun t s' I' => ⟨.int _, H, I', ⟨t, rfl⟩, q⟩
theorem clen : CallR X (.builtin "len") (lowOA X.K len1) := by
  rintro pins s σ H xs us Q I r ⟨F, μ, ds, Q0, w, rs, q, k⟩
  unfold len1 at q
  split at q <;> first | exact False.elim q | skip
  · obtain ⟨v, rfl, rv⟩ := rs.one
    cases rv
    exact call_len_str pins s σ H _ us Q I r ⟨_, rfl, q.1, k _ _ _ _ _ q.2 .refl w .int⟩
  · obtain ⟨v, rfl, rv⟩ := rs.one
    obtain ⟨a, vs, rfl, ha, r2⟩ := tup_at w rv
    exact len_seq I r (.inr ha) (by rw [r2.length]; exact k _ _ _ _ _ q .refl w .int)
  · obtain ⟨v, rfl, rv⟩ := rs.one
    obtain ⟨a, vs, rfl, ha, r2⟩ := seq_at w rv SeqAt.f
    exact len_seq I r (.inl ha) (by rw [r2.length]; exact k _ _ _ _ _ q .refl w .int)
  · obtain ⟨v, rfl, rv⟩ := rs.one
    obtain ⟨a, vs, rfl, ha, r2⟩ := seq_at w rv SeqAt.r
    exact len_seq I r (.inl ha) (by rw [r2.length]; exact k _ _ _ _ _ q .refl w .int)
  · obtain ⟨v, rfl, rv⟩ := rs.one
    obtain ⟨a, vs, rfl, ha, r2⟩ := dct_at w rv DctAt.f
    exact call_lenD2 I r ha (by rw [r2.length]; exact k _ _ _ _ _ q .refl w .int)
  · obtain ⟨v, rfl, rv⟩ := rs.one
    rcases q with ⟨xs, h, q⟩ | ⟨xs, h, q⟩
    · obtain ⟨a, vs, rfl, ha, r2⟩ := seq_at w rv (SeqAt.m h)
      exact len_seq I r (.inl ha) (by rw [r2.length]; exact k _ _ _ _ _ q .refl w .int)
    · obtain ⟨a, vs, rfl, ha, r2⟩ := dct_at w rv (DctAt.m h)
      exact call_lenD2 I r ha (by rw [r2.length]; exact k _ _ _ _ _ q .refl w .int)
def int1 : OA
  | [.int i], μ, Q => Q (.int i) μ
  | [.bl b], μ, Q => Q (.int (if b then 1 else 0)) μ
  | _, _, _ => False
theorem cint : CallR X (.type "int") (lowOA X.K int1) := by
  rintro pins s σ H xs us Q I r ⟨F, μ, ds, Q0, w, rs, q, k⟩
  unfold int1 at q
  split at q <;> first | exact False.elim q | skip
  · obtain ⟨v, rfl, rv⟩ := rs.one
    cases rv
    exact call_int1 pins s σ H _ us Q I r (.inl ⟨_, rfl, k _ _ _ _ _ q .refl w .int⟩)
  · obtain ⟨v, rfl, rv⟩ := rs.one
    cases rv
    exact call_int1 pins s σ H _ us Q I r (.inr ⟨_, rfl, k _ _ _ _ _ q .refl w .int⟩)
def list1 : OA
  | [.tup xs], μ, Q => NewL xs μ Q
  | [.lst xs], μ, Q => NewL xs μ Q
  | [.rol xs], μ, Q => NewL xs μ Q
  | [.dct xs], μ, Q => NewL (xs.map fun kv => keyV kv.1) μ Q
  | [.ref a], μ, Q => (∃ xs, μ a = some (.lst xs) ∧ NewL xs μ Q) ∨ ∃ xs, μ a = some (.dct xs) ∧ NewL (xs.map fun kv => keyV kv.1) μ Q
  | _, _, _ => False
theorem clist (hc : X.calm = true) : CallR X (.type "list") (lowOA X.K list1) := by
  rintro pins s σ H xs us Q I r ⟨F, μ, ds, Q0, w, rs, q, k⟩
  have seq : ∀ {d : D} {xs : List D} {v : V}, Rep X.K F v d → SeqAt μ d xs → Vals [v] us → NewL xs μ Q0 → wpAny (model X.prog X.w) X.A (call (.type "list") us) (EP X pins σ Q) X.xe s := by
    intro d xs v rv h r n
    obtain ⟨a, vs, rfl, ha, r2⟩ := seq_at w rv h
    exact call_list_of pins s σ H _ us Q I r ⟨a, vs, rfl, .inl ha, fun l hl => newL_ok w hl r2 n k⟩
  have dic : ∀ {d : D} {xs : List (Key × D)} {v : V}, Rep X.K F v d → DctAt μ d xs → Vals [v] us → NewL (xs.map fun kv => keyV kv.1) μ Q0 → wpAny (model X.prog X.w) X.A (call (.type "list") us) (EP X pins σ Q) X.xe s := by
    intro d xs v rv h r n
    obtain ⟨a, vs, rfl, ha, r2⟩ := dct_at w rv h
    exact call_listD hc pins s σ H _ us Q I r ⟨a, vs, rfl, .inl ha, fun l hl => newL_ok w hl r2.keys n k⟩
  unfold list1 at q
  split at q <;> first | exact False.elim q | skip
  · obtain ⟨v, rfl, rv⟩ := rs.one
    obtain ⟨a, vs, rfl, ha, r2⟩ := tup_at w rv
    exact call_list_of pins s σ H _ us Q I r ⟨a, vs, rfl, .inr ha, fun l hl => newL_ok w hl r2 q k⟩
  · obtain ⟨v, rfl, rv⟩ := rs.one
    exact seq rv SeqAt.f r q
  · obtain ⟨v, rfl, rv⟩ := rs.one
    exact seq rv SeqAt.r r q
  · obtain ⟨v, rfl, rv⟩ := rs.one
    exact dic rv DctAt.f r q
  · obtain ⟨v, rfl, rv⟩ := rs.one
    rcases q with ⟨xs, h, q⟩ | ⟨xs, h, q⟩
    · exact seq rv (SeqAt.m h) r q
    · exact dic rv (DctAt.m h) r q
def tuple1 : OA
  | [.tup xs], μ, Q => Q (.tup xs) μ
  | [.lst xs], μ, Q => Q (.tup xs) μ
  | [.rol xs], μ, Q => Q (.tup xs) μ
  | [.ref a], μ, Q => ∃ xs, μ a = some (.lst xs) ∧ Q (.tup xs) μ
  | _, _, _ => False
theorem ctuple : CallR X (.type "tuple") (lowOA X.K tuple1) := by
  rintro pins s σ H xs us Q I r ⟨F, μ, ds, Q0, w, rs, q, k⟩
  have seq : ∀ {d : D} {xs : List D} {v : V}, Rep X.K F v d → SeqAt μ d xs → Vals [v] us → Q0 (.tup xs) μ → wpAny (model X.prog X.w) X.A (call (.type "tuple") us) (EP X pins σ Q) X.xe s := by
    intro d xs v rv h r n
    obtain ⟨a, vs, rfl, ha, r2⟩ := seq_at w rv h
    exact call_tuple_of pins s σ H _ us Q I r ⟨a, vs, rfl, .inl ⟨ha, fun l hl => newT_ok w hl r2 n k⟩⟩
  unfold tuple1 at q
  split at q <;> first | exact False.elim q | skip
  · obtain ⟨v, rfl, rv⟩ := rs.one
    obtain ⟨a, vs, rfl, ha, r2⟩ := tup_at w rv
    exact call_tuple_of pins s σ H _ us Q I r ⟨a, vs, rfl, .inr ⟨ha, k _ _ _ _ _ q .refl w rv⟩⟩
  · obtain ⟨v, rfl, rv⟩ := rs.one
    exact seq rv SeqAt.f r q
  · obtain ⟨v, rfl, rv⟩ := rs.one
    exact seq rv SeqAt.r r q
  · obtain ⟨v, rfl, rv⟩ := rs.one
    obtain ⟨xs, h, q⟩ := q
    exact seq rv (SeqAt.m h) r q
def abs1 : OA
  | [.int i], μ, Q => Q (.int (if i < 0 then -i else i)) μ
  | _, _, _ => False
theorem cabs : CallR X (.builtin "abs") (lowOA X.K abs1) := by
  rintro pins s σ H xs us Q I r ⟨F, μ, ds, Q0, w, rs, q, k⟩
  unfold abs1 at q
  split at q <;> first | exact False.elim q | skip
  obtain ⟨v, rfl, rv⟩ := rs.one
  cases rv
  exact call_abs pins s σ H _ us Q I r ⟨_, rfl, k _ _ _ _ _ q .refl w .int⟩
/-- items that are ints -/
def IntsOf (xs : List D) (ns : List Int) : Prop := xs = ns.map D.int
def max1 : OA
  | [.int i, .int j], μ, Q => Q (.int (if j > i then j else i)) μ
  | [.str x, .str y], μ, Q => Q (.str (if x.cps.toList < y.cps.toList then y else x)) μ
  | [x], μ, Q => (∃ ns : List Int, SeqAt μ x (ns.map D.int) ∧ 0 < ns.length ∧ ∀ m, m ∈ ns → (∀ y, y ∈ ns → y ≤ m) → Q (.int m) μ) ∨ maxX x μ Q
  | _, _, _ => False
def min1 : OA
  | [.int i, .int j], μ, Q => Q (.int (if j < i then j else i)) μ
  | [.str x, .str y], μ, Q => Q (.str (if y.cps.toList < x.cps.toList then y else x)) μ
  | [x], μ, Q => (∃ ns : List Int, SeqAt μ x (ns.map D.int) ∧ 0 < ns.length ∧ ∀ m, m ∈ ns → (∀ y, y ∈ ns → m ≤ y) → Q (.int m) μ) ∨ minX x μ Q
  | _, _, _ => False
theorem cmax (hc : X.calm = true) (hu : X.A.units + 65 < cLine) : CallR X (.builtin "max") (lowOA X.K max1) := by
  rintro pins s σ H xs us Q I r ⟨F, μ, ds, Q0, w, rs, q, k⟩
  unfold max1 at q
  split at q <;> first | exact False.elim q | skip
  · obtain ⟨v, u, rfl, rv, ru⟩ := rs.two
    cases rv; cases ru
    exact call_max2 hc pins s σ H _ us Q I r ⟨_, _, rfl, k _ _ _ _ _ q .refl w .int⟩
  · rename_i x y
    obtain ⟨v, u, rfl, rv, ru⟩ := rs.two
    cases rv; cases ru
    obtain ⟨u1, u2, rfl, ⟨t1, rfl⟩, ⟨t2, rfl⟩⟩ := vals2 r
    refine max_two_strs (I.ok.hd hc) fun h' tk hk => ?_
    by_cases hb : x.cps.toList < y.cps.toList
    · rw [if_pos hb] at q ⊢
      exact ⟨.str y, H, I.kept hk, ⟨_, rfl⟩, k _ _ _ _ _ q .refl w .str⟩
    · rw [if_neg hb] at q ⊢
      exact ⟨.str x, H, I.kept hk, ⟨_, rfl⟩, k _ _ _ _ _ q .refl w .str⟩
  · obtain ⟨v, rfl, rv⟩ := rs.one
    rcases q with ⟨ns, h, hl, q⟩ | q
    rotate_left
    · cases r with
      | cons ru t =>
        cases t
        exact cr_maxX hc hu I ru w rv q k
    obtain ⟨a, vs, rfl, ha, r2⟩ := seq_at w rv h
    have e := r2.ints
    subst e
    exact cr_max hc pins s σ H _ us Q I r ⟨a, ns, rfl, ha, hl, fun m h1 h2 => k _ _ _ _ _ (q m h1 h2) .refl w .int⟩
theorem cmin (hc : X.calm = true) (hu : X.A.units + 65 < cLine) : CallR X (.builtin "min") (lowOA X.K min1) := by
  rintro pins s σ H xs us Q I r ⟨F, μ, ds, Q0, w, rs, q, k⟩
  unfold min1 at q
  split at q <;> first | exact False.elim q | skip
  · obtain ⟨v, u, rfl, rv, ru⟩ := rs.two
    cases rv; cases ru
    exact call_min2 hc pins s σ H _ us Q I r ⟨_, _, rfl, k _ _ _ _ _ q .refl w .int⟩
  · rename_i x y
    obtain ⟨v, u, rfl, rv, ru⟩ := rs.two
    cases rv; cases ru
    obtain ⟨u1, u2, rfl, ⟨t1, rfl⟩, ⟨t2, rfl⟩⟩ := vals2 r
    refine min_two_strs (I.ok.hd hc) fun h' tk hk => ?_
    by_cases hb : y.cps.toList < x.cps.toList
    · rw [if_pos hb] at q ⊢
      exact ⟨.str y, H, I.kept hk, ⟨_, rfl⟩, k _ _ _ _ _ q .refl w .str⟩
    · rw [if_neg hb] at q ⊢
      exact ⟨.str x, H, I.kept hk, ⟨_, rfl⟩, k _ _ _ _ _ q .refl w .str⟩
  · obtain ⟨v, rfl, rv⟩ := rs.one
    rcases q with ⟨ns, h, hl, q⟩ | q
    rotate_left
    · cases r with
      | cons ru t =>
        cases t
        exact cr_minX hc hu I ru w rv q k
    obtain ⟨a, vs, rfl, ha, r2⟩ := seq_at w rv h
    have e := r2.ints
    subst e
    exact cr_min hc pins s σ H _ us Q I r ⟨a, ns, rfl, ha, hl, fun m h1 h2 => k _ _ _ _ _ (q m h1 h2) .refl w .int⟩
def sorted1 : OA
  | [x], μ, Q => (∃ ns : List Int, SeqAt μ x (ns.map D.int) ∧ ∀ ns' : List Int, ns'.Perm ns → ns'.Pairwise (· ≤ ·) → NewL (ns'.map D.int) μ Q) ∨
      (∃ ss : List Str, (SeqAt μ x (ss.map D.str) ∨ x = .tup (ss.map D.str)) ∧ ∀ ys : List Str, ys.Perm ss → sortedS ys = true → NewL (ys.map D.str) μ Q) ∨
      (∃ (kvs : List (Key × D)) (ss : List Str), DctAt μ x kvs ∧ kvs.map (·.1) = ss.map Sum.inr ∧ ∀ ys : List Str, ys.Perm ss → sortedS ys = true → NewL (ys.map D.str) μ Q) ∨ sortedX x μ Q
  | _, _, _ => False
def str1 : OA
  | [.int i], μ, Q => i.natAbs.log2 < 1920 ∧ Q (.str (toString i)) μ
  | [.bl b], μ, Q => Q (.str (if b then "True" else "False")) μ
  | [.str x], μ, Q => Q (.str x) μ
  | [.non], μ, Q => Q (.str "None") μ
  | _, _, _ => False
theorem cstr : CallR X (.type "str") (lowOA X.K str1) := by
  rintro pins s σ H xs us Q I r ⟨F, μ, ds, Q0, w, rs, q, k⟩
  unfold str1 at q
  split at q <;> first | exact False.elim q | skip
  · obtain ⟨v, rfl, rv⟩ := rs.one
    cases rv
    exact call_str_int pins s σ H _ us Q I r ⟨_, rfl, q.1, k _ _ _ _ _ q.2 .refl w .str⟩
  · obtain ⟨v, rfl, rv⟩ := rs.one
    cases rv
    obtain ⟨u, rfl, r1⟩ := vals1 r
    cases r1
    exact PySem.P.str_of_bool ⟨.str _, H, I.tok _, ⟨_, rfl⟩, k _ _ _ _ _ q .refl w .str⟩
  · obtain ⟨v, rfl, rv⟩ := rs.one
    cases rv
    obtain ⟨u, rfl, t, rfl⟩ := vals1 r
    exact PySem.P.str_of_str ⟨.str _, H, I, ⟨_, rfl⟩, k _ _ _ _ _ q .refl w .str⟩
  · obtain ⟨v, rfl, rv⟩ := rs.one
    cases rv
    obtain ⟨u, rfl, r1⟩ := vals1 r
    cases r1
    exact PySem.P.str_of_none ⟨.str _, H, I.tok _, ⟨_, rfl⟩, k _ _ _ _ _ q .refl w .str⟩
/-- a value's type -/
inductive Ty where
  | non | bl | int | str | tup | lst | dct
  deriving DecidableEq
def Ty.nm : Ty → String
  | .non => "NoneType" | .bl => "bool" | .int => "int" | .str => "str" | .tup => "tuple" | .lst => "list" | .dct => "dict"
def tyD (μ : Mu) : D → Option Ty
  | .non => some .non
  | .bl _ => some .bl
  | .int _ => some .int
  | .str _ => some .str
  | .tup _ => some .tup
  | .lst _ => some .lst
  | .rol _ => some .lst
  | .dct _ => some .dct
  | .ref a => match μ a with
    | some (.lst _) => some .lst
    | some (.dct _) => some .dct
    | _ => none
  | _ => none
def isTy : Ty → Ty → Bool
  | .bl, .int => true
  | .non, .non => true | .bl, .bl => true | .int, .int => true | .str, .str => true | .tup, .tup => true | .lst, .lst => true | .dct, .dct => true
  | _, _ => false
theorem isTy_kit (a b : Ty) (h : b ≠ .non) : kitB a.nm b.nm = some (isTy a b) := by
  cases a <;> cases b <;> first | exact absurd rfl h | decide +kernel
def isi (T : Ty) : OA
  | [x, .ty n], μ, Q => n = T.nm ∧ ∃ t, tyD μ x = some t ∧ Q (.bl (isTy t T)) μ
  | _, _, _ => False
theorem tyX_of {K : PySem.W.Frag} {F H : Hp} {μ : Mu} {v : V} {d : D} {t : Ty} (w : Wd K F H μ) (r : Rep K F v d) (h : tyD μ d = some t) : TyX K H v (.type t.nm) := by
  have sq : ∀ {a : Addr} {vs : List V}, SqL K H a vs → TyX K H (.ref a) (.type "list") := by
    rintro a vs ((h | ⟨o, h⟩) | ⟨o, its, n, h, c, _⟩)
    · exact .base (.lst h)
    · exact .base (.frz h)
    · exact .kList h c
  have st : ∀ {a : Addr} {vs : List V}, SqT K H a vs → TyX K H (.ref a) (.type "tuple") := by
    rintro a vs ((h | ⟨o, h⟩) | ⟨o, its, n, h, c, _⟩)
    · exact .base (.tup h)
    · exact .fTuple h
    · exact .kTuple h c
  cases r with
  | non => cases h; exact .base .non
  | bl => cases h; exact .base (.bl _)
  | int => cases h; exact .base (.int _)
  | str => cases h; exact .base (.str _)
  | ty => cases h
  | ins _ _ => cases h
  | tup hq _ => cases h; exact st (sqt_mono w.sub hq)
  | lst hq _ => cases h; exact .base (.lst (w.sub _ _ hq))
  | rol hq _ => cases h; exact sq (w.sub.seq hq)
  | dct hq _ => cases h; exact .base (.dK (w.sub _ _ hq))
  | @ref a =>
    unfold tyD at h
    simp only at h
    split at h
    · next e =>
      cases h
      obtain ⟨vs, h1, _⟩ := mlst_at w e
      exact .base (.lst h1)
    · next e =>
      cases h
      obtain ⟨vs, h1, _⟩ := mdct_at w e
      exact .base (.dK h1)
    · cases h
theorem cisi (T : Ty) (hT : T ≠ .non) : CallR X (.builtin "isinstance") (lowOA X.K (isi T)) := by
  rintro pins s σ H xs us Q I r ⟨F, μ, ds, Q0, w, rs, q, k⟩
  unfold isi at q
  split at q <;> first | exact False.elim q | skip
  obtain ⟨v, u, rfl, rv, ru⟩ := rs.two
  cases ru
  obtain ⟨rfl, t, ht, q⟩ := q
  exact call_isi pins s σ H _ us Q I r ⟨v, .ty T.nm, .type t.nm, .type T.nm, isTy t T, rfl, .ty _, tyX_of w rv ht, kit_ty (isTy_kit t T hT), k _ _ _ _ _ q .refl w .bl⟩
def all1 : OA
  | [x], μ, Q => ∃ bs : List Bool, SeqAt μ x (bs.map D.bl) ∧ Q (.bl (bs.all id)) μ
  | _, _, _ => False
theorem call_ (hc : X.calm = true) : CallR X (.builtin "all") (lowOA X.K all1) := by
  rintro pins s σ H xs us Q I r ⟨F, μ, ds, Q0, w, rs, q, k⟩
  unfold all1 at q
  split at q <;> first | exact False.elim q | skip
  obtain ⟨v, rfl, rv⟩ := rs.one
  obtain ⟨bs, h, q⟩ := q
  obtain ⟨a, vs, rfl, ha, r2⟩ := seq_at w rv h
  have e := r2.bls
  subst e
  exact cr_all hc pins s σ H _ us Q I r ⟨a, bs, rfl, ha, k _ _ _ _ _ q .refl w .bl⟩
def sum1 : OA
  | [x], μ, Q => ∃ ns : List Int, SeqAt μ x (ns.map D.int) ∧ Q (.int ns.sum) μ
  | _, _, _ => False
theorem csum (hc : X.calm = true) : CallR X (.builtin "sum") (lowOA X.K sum1) := by
  rintro pins s σ H xs us Q I r ⟨F, μ, ds, Q0, w, rs, q, k⟩
  unfold sum1 at q
  split at q <;> first | exact False.elim q | skip
  obtain ⟨v, rfl, rv⟩ := rs.one
  obtain ⟨bs, h, q⟩ := q
  obtain ⟨a, vs, rfl, ha, r2⟩ := seq_at w rv h
  have e := r2.ints
  subst e
  exact cr_sum hc pins s σ H _ us Q I r ⟨a, bs, rfl, ha, k _ _ _ _ _ q .refl w .int⟩
def dict1 : OA
  | [x], μ, Q => ∃ kvs, DctAt μ x kvs ∧ NewD kvs μ Q
  | _, _, _ => False
theorem cdict : CallR X (.type "dict") (lowOA X.K dict1) := by
  rintro pins s σ H xs us Q I r ⟨F, μ, ds, Q0, w, rs, q, k⟩
  unfold dict1 at q
  split at q <;> first | exact False.elim q | skip
  obtain ⟨v, rfl, rv⟩ := rs.one
  obtain ⟨bs, h, q⟩ := q
  obtain ⟨a, vs, rfl, ha, r2⟩ := dct_at w rv h
  rw [Vals.ref1 r]
  exact d_copyOf I (.inl ha) fun p s' hp I' => ⟨.ref p, _, I', rfl, newD_ok w hp r2 q k⟩
end
end J

namespace J
open PySem PySem.Spec PyProof.Rows L2
section
variable {X : Cx} {Z : Zw}
theorem RepK.keyEq {K : PySem.W.Frag} {F : Hp} : ∀ {kvs : List (Key × V)} {ds : List (Key × D)}, RepK K F kvs ds → kvs.map (·.1) = ds.map (·.1)
  | _, _, .nil => rfl
  | _, _, .cons _ t => by rw [List.map_cons, List.map_cons, t.keyEq]
theorem csorted (hc : X.calm = true) (hu : X.A.units + 65 < cLine) : CallR X (.builtin "sorted") (lowOA X.K sorted1) := by
  rintro pins s σ H xs us Q I r ⟨F, μ, ds, Q0, w, rs, q, k⟩
  unfold sorted1 at q
  split at q <;> first | exact False.elim q | skip
  obtain ⟨v, rfl, rv⟩ := rs.one
  rcases q with ⟨ns, h, q⟩ | ⟨ss, h, q⟩ | ⟨kvs, ss, h, he, q⟩ | q
  · obtain ⟨a, vs, rfl, ha, r2⟩ := seq_at w rv h
    have e := r2.ints
    subst e
    exact cr_sortedI pins s σ H _ us Q I r ⟨a, ns, rfl, ha, fun ns' p h1 h2 hp => newL_ok w hp (Reps.of_ints ns') (q ns' h1 h2) k⟩
  · rcases h with h | rfl
    · obtain ⟨a, vs, rfl, ha, r2⟩ := seq_at w rv h
      have e := r2.strs
      subst e
      exact call_sortedSq hc pins s σ H _ us Q I r ⟨a, ss, rfl, .inl ha, fun ns' p h1 h2 hp => newL_ok w hp (Reps.of_strs ns') (q ns' h1 h2) k⟩
    · cases rv with
      | tup hq rs2 =>
        have e := rs2.strs
        subst e
        exact call_sortedSq hc pins s σ H _ us Q I r ⟨_, ss, rfl, .inr (sqt_mono w.sub hq), fun ns' p h1 h2 hp => newL_ok w hp (Reps.of_strs ns') (q ns' h1 h2) k⟩
  · obtain ⟨a, vs, rfl, ha, r2⟩ := dct_at w rv h
    exact call_sortedDA hc pins s σ H _ us Q I r ⟨a, vs, ss, rfl, .inl ha, r2.keyEq.trans he, fun ns' p h1 h2 hp => newL_ok w hp (Reps.of_strs ns') (q ns' h1 h2) k⟩
  · cases r with
    | cons ru t =>
      cases t
      exact cr_sortedX hu I ru w rv q k

/-! ### methods of lists and dicts -/
def TyM (T : String) (x : D) (μ : Mu) : Prop :=
  match x with
  | .str _ => T = "str"
  | .int _ => T = "int"
  | .lst _ => T = "list"
  | .rol _ => T = "list"
  | .dct _ => T = "dict"
  | .ref a => (T = "list" ∧ ∃ xs, μ a = some (.lst xs)) ∨ (T = "dict" ∧ ∃ xs, μ a = some (.dct xs))
  | _ => False
theorem tyM_ok {K : PySem.W.Frag} {F H : Hp} {μ : Mu} {v : V} {x : D} {T : String} (w : Wd K F H μ) (r : Rep K F v x) (h : TyM T x μ) : tyV K T v H := by
  cases r with
  | str => exact h
  | int => exact h
  | lst hq _ => exact .inl ⟨h, _, SqL.of (w.sub _ _ hq)⟩
  | rol hq _ => exact .inl ⟨h, _, w.sub.seq hq⟩
  | dct hq _ => exact .inr (.inr (.inl ⟨h, .inl ⟨_, w.sub _ _ hq⟩⟩))
  | ref =>
    rcases h with ⟨e, xs, h⟩ | ⟨e, xs, h⟩
    · obtain ⟨vs, h1, _⟩ := mlst_at w h
      exact .inl ⟨e, _, SqL.of h1⟩
    · obtain ⟨vs, h1, _⟩ := mdct_at w h
      exact .inr (.inr (.inl ⟨e, .inl ⟨_, h1⟩⟩))
  | non => exact False.elim h
  | bl => exact False.elim h
  | ty => exact False.elim h
  | tup _ _ => exact False.elim h
  | ins _ _ => exact False.elim h
def jBM0 (T : String) (r : OM) (to : TE2) : TE2 := fun δ μ Q => to δ μ fun x μ1 => TyM T x μ1 ∧ r x [] μ1 Q
def jBM (T : String) (r : OM) (to : TE2) (t : TA2) : TE2 := fun δ μ Q => to δ μ fun x μ1 => TyM T x μ1 ∧ t δ μ1 fun ds μ2 => r x ds μ2 Q
theorem jbm0 {o : Expr} {to : TE2} {name : Str} {apos cpos : Pos} {T id : String} {r : OM} (pa : PlainAttrs T) (slot : Slot T name id) (hty : typeOf (.builtin id) = pure (.type "method_descriptor")) (hm : MtR X id (lowOM X.K r)) (ho : E2 X Z o to)
    (hbase : attributeBase o name X.env (eval o X.env) = eval o X.env := by rfl) (hline : (apos.endLine == cpos.line) = true := by rfl) : E2 X Z (.Call (.Attribute o name apos) [] [] cpos) (jBM0 T r to) := by
  refine pe_imp (pe_bm0 pa slot hty hm ho hbase hline) ?_
  rintro σ H Q ⟨F, δ, μ, Q0, m, q, k⟩
  refine ⟨F, δ, μ, _, m, q, ?_⟩
  rintro x μ1 F1 H1 v ⟨ht, q1⟩ g1 w1 r1
  exact ⟨tyM_ok w1 r1 ht, F1, μ1, x, [], Q0, w1, r1, .nil, q1, tr k g1⟩
theorem jbm {o e : Expr} {es : List Expr} {to : TE2} {t : TA2} {name : Str} {apos cpos : Pos} {T id : String} {r : OM} (pa : PlainAttrs T) (slot : Slot T name id) (hty : typeOf (.builtin id) = pure (.type "method_descriptor")) (hm : MtR X id (lowOM X.K r)) (ho : E2 X Z o to) (ha : A2 X Z (e :: es) t)
    (hbase : attributeBase o name X.env (eval o X.env) = eval o X.env := by rfl)
    (hfew : ((backTo cpos (starEach (e :: es) X.env)).all (fun x => !x.1) && (backToKw cpos (keywordEach [] X.env)).all (fun x => x.1.isSome)
      && decide ((e :: es).length + ([] : List Keyword).length + (if ([] : List Keyword).isEmpty then 0 else 1) < 30)) = true := by rfl)
    (hline : (apos.endLine == cpos.line) = true := by rfl) (hs : starEach (e :: es) X.env = (false, eval e X.env) :: starEach es X.env := by rfl) (hplain : (backTo cpos (starEach es X.env)).any (·.1) = false := by rfl) :
    E2 X Z (.Call (.Attribute o name apos) (e :: es) [] cpos) (jBM T r to t) := by
  refine pe_imp (pe_bm pa slot hty hm ho ha hbase hfew hline hs hplain) ?_
  rintro σ H Q ⟨F, δ, μ, Q0, m, q, k⟩
  refine ⟨F, δ, μ, _, m, q, ?_⟩
  rintro x μ1 F1 H1 v ⟨ht, q1⟩ g1 w1 r1
  refine ⟨tyM_ok w1 r1 ht, F1, δ, μ1, _, m.step g1 w1, q1, ?_⟩
  rintro ds μ2 F2 H2 vs q2 g2 w2 r2
  exact ⟨F2, μ2, x, ds, Q0, w2, r1.mono g2.ff, r2, q2, tr k (g1.trans g2)⟩
def append1 : OM
  | .ref a, [y], μ, Q => ∃ xs, μ a = some (.lst xs) ∧ xs.length < sizeLine ∧ Q .non (mup μ a (.lst (xs ++ [y])))
  | _, _, _, _ => False
theorem mappend : MtR X "list.append" (lowOM X.K append1) := by
  rintro pins s σ H x xs v us Q I rx r ⟨F, μ, d, ds, Q0, w, r1, rs, q, k⟩
  unfold append1 at q
  split at q <;> first | exact False.elim q | skip
  cases r1
  obtain ⟨y, rfl, ry⟩ := rs.one
  obtain ⟨zs, h, hl, q⟩ := q
  obtain ⟨vs, h1, r2⟩ := mlst_at w h
  obtain ⟨w2, g2⟩ := w.write h (RepM.lst (r2.append (.cons ry .nil)))
  exact mt_append pins s σ H _ _ v us Q I rx r ⟨_, vs, y, rfl, rfl, h1, by rw [r2.length]; exact hl, k _ _ _ _ _ q g2 w2 .non⟩
def pop1 : OM
  | .ref a, [], μ, Q => ∃ xs y, μ a = some (.lst xs) ∧ xs[xs.length - 1]? = some y ∧ Q y (mup μ a (.lst xs.dropLast))
  | .ref a, [.int i], μ, Q => ∃ xs k y, μ a = some (.lst xs) ∧ -(2 ^ 63) ≤ i ∧ i < 2 ^ 63 ∧ seqIndex? i xs.length = some k ∧ xs[k]? = some y ∧ Q y (mup μ a (.lst (xs.eraseIdx k)))
  | _, _, _, _ => False
theorem Reps.eraseIdx {K : PySem.W.Frag} {F : Hp} : ∀ {vs : List V} {ds : List D} (i : Nat), Reps K F vs ds → Reps K F (vs.eraseIdx i) (ds.eraseIdx i)
  | _, _, _, .nil => .nil
  | _, _, 0, .cons _ t => t
  | _, _, i + 1, .cons q t => .cons q (Reps.eraseIdx i t)
theorem mpop : MtR X "list.pop" (lowOM X.K pop1) := by
  rintro pins s σ H x xs v us Q I rx r ⟨F, μ, d, ds, Q0, w, r1, rs, q, k⟩
  unfold pop1 at q
  split at q <;> first | exact False.elim q | skip
  · cases r1
    cases rs
    obtain ⟨zs, y, h, hy, q⟩ := q
    obtain ⟨vs, h1, r2⟩ := mlst_at w h
    obtain ⟨yv, hyv, ry⟩ := r2.get hy
    obtain ⟨w2, g2⟩ := w.write h (RepM.lst r2.dropLast)
    exact mt_pop pins s σ H _ _ v us Q I rx r ⟨_, vs, yv, rfl, rfl, h1, by rw [r2.length]; exact hyv, k _ _ _ _ _ q g2 w2 ry⟩
  · cases r1
    obtain ⟨iv, rfl, ri⟩ := rs.one
    cases ri
    obtain ⟨zs, j, y, h, b1, b2, hj, hy, q⟩ := q
    obtain ⟨vs, h1, r2⟩ := mlst_at w h
    obtain ⟨yv, hyv, ry⟩ := r2.get hy
    obtain ⟨w2, g2⟩ := w.write h (RepM.lst (r2.eraseIdx j))
    exact mt_popAt pins s σ H _ _ v us Q I rx r ⟨_, vs, _, j, yv, rfl, rfl, h1, b1, b2, by rw [r2.length]; exact hj, hyv, k _ _ _ _ _ q g2 w2 ry⟩
def mergeD (kvs more : List (Key × D)) : List (Key × D) := more.foldl (fun acc kv => putKD acc kv.1 kv.2) kvs
theorem RepK.merge {K : PySem.W.Frag} {F : Hp} : ∀ {more : List (Key × V)} {ms : List (Key × D)} {kvs : List (Key × V)} {ds : List (Key × D)}, RepK K F more ms → RepK K F kvs ds → RepK K F (mergeK kvs more) (mergeD ds ms)
  | [], [], _, _, .nil, h => h
  | (k, v) :: vs, (_, d) :: ds, kvs, es, .cons r t, h => by
    show RepK K F (mergeK (putK kvs k v) vs) (mergeD (putKD es k d) ds)
    exact RepK.merge t (h.put r)
def update1 : OM
  | .ref a, [y], μ, Q => ∃ xs ys, μ a = some (.dct xs) ∧ DctAt μ y ys ∧ y ≠ .ref a ∧ xs.length + ys.length ≤ sizeLine ∧ Q .non (mup μ a (.dct (mergeD xs ys)))
  | _, _, _, _ => False
theorem mupdate : MtR X "dict.update" (lowOM X.K update1) := by
  rintro pins s σ H x xs v us Q I rx r ⟨F, μ, d, ds, Q0, w, r1, rs, q, k⟩
  unfold update1 at q
  split at q <;> first | exact False.elim q | skip
  rename_i a y
  cases r1
  obtain ⟨yv, rfl, ry⟩ := rs.one
  obtain ⟨zs, ys, h, hy, ne, hl, q⟩ := q
  obtain ⟨vs, h1, r2⟩ := mdct_at w h
  obtain ⟨b, ws, rfl, h2, r3⟩ := dct_at w ry hy
  obtain ⟨w2, g2⟩ := w.write h (RepM.dct (r3.merge r2))
  have hab : a ≠ b := by
    intro e
    subst e
    rcases hy with rfl | ⟨c, rfl, hc⟩
    · cases ry with
      | dct hf _ =>
        obtain ⟨fa, _⟩ := w.mts _ _ h
        rw [hf] at fa; cases fa
    · cases ry
      exact ne rfl
  cases (show v = Value.ref a from rx)
  rw [Vals.ref1 r]
  obtain ⟨z1, hd1, ps, rel1, dd1⟩ := dk_of I.hok h1
  obtain ⟨z2, hd2, ps2, rel2, dd2⟩ := dk_of I.hok h2
  refine call_meetsIn PySem.F.slot_dict_update dd1.typeIs PySem.F.entry_dict_update (PySem.F.args_dict_update_2 _ _) (meets_dict_update (mixKind X.prog X.w) a b hab hd2)
    ⟨ps, ps2, dd1, dd2, by rw [← rel1.length, ← rel2.length, r2.length, r3.length]; exact hl, fun h' hm _ hs => ?_⟩
  have hn := rel2.merge rel1
  have hlen := length_mergeK ws vs
  have he : ∃ q, h'.get? a = some q := let ⟨q, _, _, hq, _⟩ := hm; ⟨q, hq⟩
  exact ⟨.non, upd H a (.dK (mergeK vs ws)), d_write (t' := s.toks) I (by rw [h1]; exact True.intro) hs he (dk_new (by have := r2.length; have := r3.length; omega) hd1 hn hm), rfl, k _ _ _ _ _ q g2 w2 .non⟩

/-! ### slices -/
abbrev TO2 := Sg → Mu → (Option Int → Mu → Prop) → Prop
def lowO (K : PySem.W.Frag) (Z : Zw) (t : TO2) : TO := fun σ H Q => ∃ F δ μ Q0, Mt K Z F σ H δ μ ∧ t δ μ Q0 ∧ ∀ b μ' F' H', Q0 b μ' → Gr F H μ F' H' μ' → Wd K F' H' μ' → Q b H'
def jNoPart : TO2 := fun _ μ Q => Q none μ
def jPart (t : TE2) : TO2 := fun δ μ Q => t δ μ fun x μ1 => ∃ i, x = .int i ∧ Q (some i) μ1
theorem jo0 : PO X none (lowO X.K Z jNoPart) := ⟨fun pins s σ H Q I h => by
  obtain ⟨F, δ, μ, Q0, m, q, k⟩ := h
  exact (po_none (X := X)).run pins s σ H Q I (k none μ F H q .refl m.wd)⟩
theorem jo {e : Expr} {te : TE2} (h : E2 X Z e te) : PO X (some e) (lowO X.K Z (jPart te)) := ⟨fun pins s σ H Q I hh => by
  obtain ⟨F, δ, μ, Q0, m, q, k⟩ := hh
  refine (po_some h).run pins s σ H Q I ⟨F, δ, μ, _, m, q, ?_⟩
  rintro x μ1 F1 H1 v ⟨i, rfl, q1⟩ g1 w1 r1
  cases r1
  exact ⟨i, rfl, k _ _ _ _ q1 g1 w1⟩⟩
def cutD (xs : List D) (lo hi : Option Int) : List D := (xs.drop (HT.sIx xs.length 0 lo)).take (HT.sIx xs.length xs.length hi - HT.sIx xs.length 0 lo)
def sl2 (x : D) (lo hi : Option Int) (μ : Mu) (Q : QE) : Prop :=
  (∃ xs, SeqAt μ x xs ∧ NewL (cutD xs lo hi) μ Q) ∨ (∃ xs, x = .tup xs ∧ Q (.tup (cutD xs lo hi)) μ) ∨ ∃ z, x = .str z ∧ z.length ≤ sizeLine ∧ Q (.str (cutS z lo hi)) μ
def lowSl (K : PySem.W.Frag) : V → Option Int → Option Int → Hp → VK → Prop := fun x lo hi H Q => ∃ F μ d Q0, Wd K F H μ ∧ Rep K F x d ∧ sl2 d lo hi μ Q0 ∧ ∀ d' μ' F' H' v, Q0 d' μ' → Gr F H μ F' H' μ' → Wd K F' H' μ' → Rep K F' v d' → Q v H'
theorem cut_rep {K : PySem.W.Frag} {F : Hp} {vs : List V} {xs : List D} (r : Reps K F vs xs) (lo hi : Option Int) : Reps K F (cutV vs lo hi) (cutD xs lo hi) := by
  unfold cutV cutD
  rw [r.length]
  exact (r.drop _).take _
theorem osl : SlR X (lowSl X.K) := by
  rintro pins s σ H x v vl vu lo hi sl Q I rx hs pl pu ⟨F, μ, d, Q0, w, r1, q, k⟩
  rcases q with ⟨xs, hx, n⟩ | ⟨xs, rfl, q⟩ | ⟨z, rfl, hz, q⟩
  · obtain ⟨a, vs, rfl, ha, rs⟩ := seq_at w r1 hx
    exact sl_list pins s σ H _ v vl vu lo hi sl Q I rx hs pl pu ⟨a, vs, rfl, ha, fun p hp => newL_ok w hp (cut_rep rs lo hi) n k⟩
  · obtain ⟨a, vs, rfl, ha, rs⟩ := tup_at w r1
    refine sl_tupA pins s σ H _ v vl vu lo hi sl Q I rx hs pl pu ⟨a, vs, rfl, ha, fun e => ?_, fun _ p hp => newT_ok w hp (cut_rep rs lo hi) q k⟩
    have e2 : cutD xs lo hi = xs := by
      unfold cutD
      rw [← rs.length, e.1, e.2, rs.length]
      simp
    rw [e2] at q
    exact k _ _ _ _ _ q .refl w r1
  · cases r1
    exact sl_str pins s σ H _ v vl vu lo hi sl Q I rx hs pl pu ⟨z, rfl, hz, k _ _ _ _ _ q .refl w .str⟩
def jSl (te : TE2) (tl th : TO2) : TE2 := fun δ μ Q => te δ μ fun x μ1 => tl δ μ1 fun l μ2 => th δ μ2 fun u μ3 => sl2 x l u μ3 Q
theorem jsl {e : Expr} {lo hi : Option Expr} {p2 pos : Pos} {te : TE2} {tl th : TO2} (he : E2 X Z e te) (hl : PO X lo (lowO X.K Z tl)) (hu : PO X hi (lowO X.K Z th)) : E2 X Z (.Subscript e (.Slice lo hi none p2) pos) (jSl te tl th) := by
  refine pe_imp (pe_slice osl he hl hu) ?_
  rintro σ H Q ⟨F, δ, μ, Q0, m, q, k⟩
  refine ⟨F, δ, μ, _, m, q, ?_⟩
  rintro x μ1 F1 H1 v q1 g1 w1 r1
  refine ⟨F1, δ, μ1, _, m.step g1 w1, q1, ?_⟩
  rintro l μ2 F2 H2 q2 g2 w2
  refine ⟨F2, δ, μ2, _, (m.step g1 w1).step g2 w2, q2, ?_⟩
  rintro u μ3 F3 H3 q3 g3 w3
  exact ⟨F3, μ3, x, Q0, w3, (r1.mono g2.ff).mono g3.ff, q3, tr k ((g1.trans g2).trans g3)⟩

/-! ### stores to places -/
def set2 (o i v : D) (μ : Mu) (Q : Mu → Prop) : Prop :=
  (∃ p xs k j, o = .ref p ∧ i = .int k ∧ μ p = some (.lst xs) ∧ ixN xs.length k = some j ∧ Q (mup μ p (.lst (xs.set j v)))) ∨
  ∃ p kvs k, o = .ref p ∧ keyD i = some k ∧ μ p = some (.dct kvs) ∧ kvs.length < sizeLine ∧ Q (mup μ p (.dct (putKD kvs k v)))
def lowSet (K : PySem.W.Frag) : V → V → V → Hp → (Hp → Prop) → Prop := fun o i v H Q => ∃ F μ d e f Q0, Wd K F H μ ∧ Rep K F o d ∧ Rep K F i e ∧ Rep K F v f ∧ set2 d e f μ Q0 ∧ ∀ μ' F' H', Q0 μ' → Gr F H μ F' H' μ' → Wd K F' H' μ' → Q H'
theorem oset (hu : X.A.units + 1 < cLine) : PSet X (lowSet X.K) := by
  rintro pins s σ H o i v ov iv u Q I ro ri rv ⟨F, μ, d, e, f, Q0, w, r1, r2, r3, q, k⟩
  rcases q with ⟨p, xs, n, j, rfl, rfl, h, hj, q⟩ | ⟨p, kvs, kk, rfl, hk, h, hl, q⟩
  · cases r1; cases r2
    obtain ⟨vs, h1, rs⟩ := mlst_at w h
    obtain ⟨w2, g2⟩ := w.write h (RepM.lst (rs.set r3 j))
    exact set_list pins s σ H _ _ v ov iv u Q I ro ri rv ⟨p, vs, n, j, rfl, rfl, h1, by rw [rs.length]; exact hj, k _ _ _ q g2 w2⟩
  · cases r1
    have e1 := keyD_rep r2 hk
    subst e1
    obtain ⟨vs, h1, rs⟩ := mdct_at w h
    obtain ⟨w2, g2⟩ := w.write h (RepM.dct (rs.put (k := kk) r3))
    cases (show ov = Value.ref p from ro)
    exact d_setItem hu I (DPut.k h1 (by rw [rs.length]; exact hl)) ri rv fun s' I' => ⟨_, I', k _ _ _ q g2 w2⟩
def kSub (to ti : TE2) : TG2 := fun v δ μ Q => to δ μ fun o μ1 => ti δ μ1 fun i μ2 => set2 o i v μ2 fun μ3 => Q δ μ3
theorem kgsub {o i : Expr} {to ti : TE2} {pos : Pos} (hu : X.A.units + 1 < cLine) (ho : E2 X Z o to) (hi : E2 X Z i ti)
    (ha : ∀ v, assign (.Subscript o i pos) X.env v = (do
      let ov ← holding [v] (eval o X.env)
      let iv ← holding [v, ov] (eval i X.env)
      standAt pos
      holding [v, ov, iv] (setItem ov iv v)
      release [v, ov, iv] []) := by intro _; rfl) : G2 X Z (.Subscript o i pos) (kSub to ti) := by
  refine pg_imp (pg_sub ho hi (oset hu) ha) ?_
  rintro v σ H Q ⟨F, δ, μ, d, Q0, m, r, q, k⟩
  refine ⟨F, δ, μ, _, m, q, ?_⟩
  rintro x μ1 F1 H1 xv q1 g1 w1 r1
  refine ⟨F1, δ, μ1, _, m.step g1 w1, q1, ?_⟩
  rintro y μ2 F2 H2 yv q2 g2 w2 r2
  refine ⟨F2, μ2, x, y, d, _, w2, r1.mono g2.ff, r2, (r.mono g1.ff).mono g2.ff, q2, ?_⟩
  rintro μ3 F3 H3 q3 g3 w3
  exact k _ _ _ _ _ q3 ((g1.trans g2).trans g3) (((m.step g1 w1).step g2 w2).step g3 w3)
end
end J

namespace J
open PySem PySem.Spec PyProof.Rows L2
section
variable {X : Cx} {Z : Zw} {tg : Expr}
/-! ### what a loop walks -/
def iSeq' (x : D) (μ : Mu) (R : List D → (Mu → Prop) → Mu → Prop) : Prop :=
  match x with
  | .lst xs => R xs (fun _ => True) μ
  | .rol xs => R xs (fun _ => True) μ
  | .ref a => ∃ xs, μ a = some (.lst xs) ∧ R xs (fun μ' => μ' a = some (.lst xs)) μ
  | _ => False
def iL (t : TE2) : TI2 := fun δ μ R => t δ μ fun x μ1 => iSeq' x μ1 R
theorem itOk_list {K : PySem.W.Frag} {F : Hp} {a : Addr} {vs : List V} {xs : List D} {G : Mu → Prop} (rs : Reps K F vs xs) (h : ∀ F' H' μ', Same F F' → Wd K F' H' μ' → G μ' → ∃ ws, SqL K H' a ws ∧ Reps K F' ws xs) : ItOk K (Itl K a) F xs G := by
  intro F' H' μ' ff w g
  obtain ⟨ws, hs, rs'⟩ := h F' H' μ' ff w g
  refine ⟨fun i d hd => ?_, fun i hi => ⟨ws, hs, by rw [rs'.length]; exact hi⟩⟩
  obtain ⟨v, hv, rv⟩ := rs'.get hd
  refine ⟨⟨ws, v, hs, hv⟩, ?_⟩
  rintro x H2 ⟨rfl, hy⟩
  have e := hy ws hs
  rw [hv] at e
  cases e
  exact ⟨F', .refl, w, rv⟩
theorem ji_list {l : Expr} {t : TE2} (hl : E2 X Z l t) : I2 X Z tg l (iL t) := by
  refine pi_imp (pi_list hl) ?_
  rintro σ H R ⟨F, δ, μ, Q0, m, q, k⟩
  refine ⟨F, δ, μ, _, m, q, ?_⟩
  rintro x μ1 F1 H1 v q1 g1 w1 r1
  unfold iSeq' at q1
  split at q1 <;> first | exact False.elim q1 | skip
  · rename_i xs
    obtain ⟨a, vs, rfl, ha, rs⟩ := seq_at w1 r1 SeqAt.f
    refine ⟨a, rfl, ⟨_, ha⟩, k _ _ _ _ _ _ q1 g1 w1 (itOk_list rs fun F' H' μ' ff w' _ => ?_)⟩
    cases r1 with
    | lst hq rq => exact ⟨_, SqL.of (w'.sub _ _ (ff _ _ hq)), rq.mono ff⟩
  · rename_i xs
    obtain ⟨a, vs, rfl, ha, rs⟩ := seq_at w1 r1 SeqAt.r
    refine ⟨a, rfl, ⟨_, ha⟩, k _ _ _ _ _ _ q1 g1 w1 (itOk_list rs fun F' H' μ' ff w' _ => ?_)⟩
    cases r1 with
    | rol hq rq => exact ⟨_, w'.sub.seq (ff.seq hq), rq.mono ff⟩
  · obtain ⟨xs, h, q1⟩ := q1
    cases r1
    obtain ⟨vs, h1, rs⟩ := mlst_at w1 h
    refine ⟨_, rfl, ⟨_, SqL.of h1⟩, k _ _ _ _ _ _ q1 g1 w1 (itOk_list rs fun F' H' μ' ff w' g => ?_)⟩
    obtain ⟨ws, h2, rs2⟩ := mlst_at w' g
    exact ⟨ws, SqL.of h2, rs2⟩
def iT (t : TE2) : TI2 := fun δ μ R => t δ μ fun x μ1 => ∃ xs, x = .tup xs ∧ R xs (fun _ => True) μ1
theorem ji_tup {l : Expr} {t : TE2} (hl : E2 X Z l t) : I2 X Z tg l (iT t) := by
  refine pi_imp (pi_tup hl) ?_
  rintro σ H R ⟨F, δ, μ, Q0, m, q, k⟩
  refine ⟨F, δ, μ, _, m, q, ?_⟩
  rintro x μ1 F1 H1 v ⟨xs, rfl, q1⟩ g1 w1 r1
  cases r1 with
  | tup hq rs =>
    refine ⟨_, rfl, ⟨_, sqt_mono w1.sub hq⟩, k _ _ _ _ _ _ q1 g1 w1 ?_⟩
    intro F' H' μ' ff w' _
    have hs := sqt_mono w'.sub (sqt_mono ff hq)
    have rs' := rs.mono ff
    refine ⟨fun i d hd => ?_, fun i hi => ⟨_, hs, by rw [rs'.length]; exact hi⟩⟩
    obtain ⟨v, hv, rv⟩ := rs'.get hd
    refine ⟨⟨_, v, hs, hv⟩, ?_⟩
    rintro x H2 ⟨rfl, hy⟩
    have e := hy _ hs
    rw [hv] at e
    cases e
    exact ⟨F', .refl, w', rv⟩
/-- a list or a tuple, walked -/
def iLTlow (K : PySem.W.Frag) (tl : TE) : TI := fun σ H R => tl σ H fun x H1 => ∃ a, x = .ref a ∧ (((∃ xs, SqL K H1 a xs) ∧ R (Itl K a) H1) ∨ ((∃ xs, SqT K H1 a xs) ∧ R (Itt K a) H1))
theorem pi_lt {l : Expr} {tl : TE} (hl : PE X l tl) : PI X tg l (iLTlow X.K tl) := by
  refine ⟨fun pins s σ H R I h => ?_⟩
  refine thn (hl.run pins s σ H _ I h) fun v s1 ⟨x, H1, I1, r1, q1⟩ => ?_
  obtain ⟨a, e, q⟩ := q1
  subst e
  cases r1
  rcases q with ⟨⟨xs, hq⟩, q⟩ | ⟨⟨xs, hq⟩, q⟩
  · obtain ⟨its, rv, p, hz⟩ := I1.list hq
    refine wpAny_pyIter_list p.isList ?_
    refine ⟨s1.heap.objs.size, [s1.heap.objs.size], _, _, H1, rfl, I1.kept (t' := s1.toks) fun b o e => Heap.get?_push_of_some _ e, turn_list a _, ⟨_, Heap.get?_push_size _ rfl, rfl, rfl⟩, fun b hb => ?_, q⟩
    have e : b = s1.heap.objs.size := by simpa using hb
    subst e
    exact I1.fpOk (Nat.le_refl _) (I1.hok.fresh (Nat.le_refl _))
  · obtain ⟨its, rv, p, hz⟩ := I1.tuple hq
    refine wpAny_pyIter_tuple (show s1.heap.IsTuple a its.toArray from p) ?_
    refine ⟨s1.heap.objs.size, [s1.heap.objs.size], _, _, H1, rfl, I1.kept (t' := s1.toks) fun b o e => Heap.get?_push_of_some _ e, turn_tuple a _, ⟨_, Heap.get?_push_size _ rfl, rfl, rfl⟩, fun b hb => ?_, q⟩
    have e : b = s1.heap.objs.size := by simpa using hb
    subst e
    exact I1.fpOk (Nat.le_refl _) (I1.hok.fresh (Nat.le_refl _))
def iLT (t : TE2) : TI2 := fun δ μ R => t δ μ fun x μ1 => iSeq' x μ1 R ∨ ∃ xs, x = .tup xs ∧ R xs (fun _ => True) μ1
theorem ji_lt {l : Expr} {t : TE2} (hl : E2 X Z l t) : I2 X Z tg l (iLT t) := by
  refine pi_imp (pi_lt hl) ?_
  rintro σ H R ⟨F, δ, μ, Q0, m, q, k⟩
  refine ⟨F, δ, μ, _, m, q, ?_⟩
  rintro x μ1 F1 H1 v (q1 | ⟨xs, rfl, q1⟩) g1 w1 r1
  · unfold iSeq' at q1
    split at q1 <;> first | exact False.elim q1 | skip
    · rename_i xs
      obtain ⟨a, vs, rfl, ha, rs⟩ := seq_at w1 r1 SeqAt.f
      refine ⟨a, rfl, .inl ⟨⟨_, ha⟩, k _ _ _ _ _ _ q1 g1 w1 (itOk_list rs fun F' H' μ' ff w' _ => ?_)⟩⟩
      cases r1 with
      | lst hq rq => exact ⟨_, SqL.of (w'.sub _ _ (ff _ _ hq)), rq.mono ff⟩
    · rename_i xs
      obtain ⟨a, vs, rfl, ha, rs⟩ := seq_at w1 r1 SeqAt.r
      refine ⟨a, rfl, .inl ⟨⟨_, ha⟩, k _ _ _ _ _ _ q1 g1 w1 (itOk_list rs fun F' H' μ' ff w' _ => ?_)⟩⟩
      cases r1 with
      | rol hq rq => exact ⟨_, w'.sub.seq (ff.seq hq), rq.mono ff⟩
    · obtain ⟨xs, h, q1⟩ := q1
      cases r1
      obtain ⟨vs, h1, rs⟩ := mlst_at w1 h
      refine ⟨_, rfl, .inl ⟨⟨_, SqL.of h1⟩, k _ _ _ _ _ _ q1 g1 w1 (itOk_list rs fun F' H' μ' ff w' g => ?_)⟩⟩
      obtain ⟨ws, h2, rs2⟩ := mlst_at w' g
      exact ⟨ws, SqL.of h2, rs2⟩
  cases r1 with
  | tup hq rs =>
    refine ⟨_, rfl, .inr ⟨⟨_, sqt_mono w1.sub hq⟩, k _ _ _ _ _ _ q1 g1 w1 ?_⟩⟩
    intro F' H' μ' ff w' _
    have hs := sqt_mono w'.sub (sqt_mono ff hq)
    have rs' := rs.mono ff
    refine ⟨fun i d hd => ?_, fun i hi => ⟨_, hs, by rw [rs'.length]; exact hi⟩⟩
    obtain ⟨v, hv, rv⟩ := rs'.get hd
    refine ⟨⟨_, v, hs, hv⟩, ?_⟩
    rintro x H2 ⟨rfl, hy⟩
    have e := hy _ hs
    rw [hv] at e
    cases e
    exact ⟨F', .refl, w', rv⟩
/-- the ints from lo on -/
def rngD (lo : Int) (n : Nat) : List D := (List.range n).map fun i => .int (lo + (i : Nat))
theorem itOk_rng {K : PySem.W.Frag} {F : Hp} {lo : Int} {n : Nat} {G : Mu → Prop} : ItOk K (Itr lo n) F (rngD lo n) G := by
  intro F' H' μ' ff w g
  refine ⟨fun i d hd => ?_, fun i hi => (by show n ≤ i; simpa [rngD] using hi)⟩
  unfold rngD at hd
  rw [List.getElem?_map] at hd
  by_cases hi : i < n
  · rw [List.getElem?_range hi] at hd
    cases hd
    refine ⟨hi, ?_⟩
    rintro x H2 ⟨rfl, rfl⟩
    exact ⟨F', .refl, w, .int⟩
  · rw [List.getElem?_eq_none (by simpa using hi)] at hd
    cases hd
def rngOk (i : Int) : Prop := -(2 ^ 62) ≤ i ∧ i < 2 ^ 62
def iR1 (t : TA2) : TI2 := fun δ μ R => t δ μ fun ds μ1 => ∃ j, ds = [.int j] ∧ rngOk j ∧ R (rngD 0 j.toNat) (fun _ => True) μ1
def iR2 (t : TA2) : TI2 := fun δ μ R => t δ μ fun ds μ1 => ∃ i j, ds = [.int i, .int j] ∧ rngOk i ∧ rngOk j ∧ R (rngD i (j - i).toNat) (fun _ => True) μ1
theorem ji_range1 {a : Expr} {t : TA2} {p pos : Pos} (hg : Gl X "range") (hm : X.mg "range" = none) (ha : A2 X Z [a] t) (hs : starEach [a] X.env = [(false, eval a X.env)] := by rfl) : I2 X Z tg (.Call (.Name "range" p) [a] [] pos) (iR1 t) := by
  refine pi_imp (pi_range1 hg hm ha hs) ?_
  rintro σ H R ⟨F, δ, μ, Q0, m, q, k⟩
  refine ⟨F, δ, μ, _, m, q, ?_⟩
  rintro ds μ1 F1 H1 vs ⟨j, rfl, hj, q1⟩ g1 w1 r1
  obtain ⟨v, rfl, rv⟩ := r1.one
  cases rv
  exact ⟨j, rfl, hj.1, hj.2, k _ _ _ _ _ _ q1 g1 w1 itOk_rng⟩
theorem ji_range2 {a b : Expr} {t : TA2} {p pos : Pos} (hg : Gl X "range") (hm : X.mg "range" = none) (ha : A2 X Z [a, b] t) (hs : starEach [a, b] X.env = [(false, eval a X.env), (false, eval b X.env)] := by rfl) (hs2 : starEach [b] X.env = [(false, eval b X.env)] := by rfl) : I2 X Z tg (.Call (.Name "range" p) [a, b] [] pos) (iR2 t) := by
  refine pi_imp (pi_range2 hg hm ha hs hs2) ?_
  rintro σ H R ⟨F, δ, μ, Q0, m, q, k⟩
  refine ⟨F, δ, μ, _, m, q, ?_⟩
  rintro ds μ1 F1 H1 vs ⟨i, j, rfl, hi, hj, q1⟩ g1 w1 r1
  obtain ⟨v, u, rfl, rv, ru⟩ := r1.two
  cases rv; cases ru
  exact ⟨i, j, rfl, ⟨hi.1, hi.2, hj.1, hj.2⟩, k _ _ _ _ _ _ q1 g1 w1 itOk_rng⟩
def strD (x : Str) : List D := x.cps.toList.map fun c => .str ⟨#[c]⟩
def iStr2 (t : TE2) : TI2 := fun δ μ R => t δ μ fun x μ1 => ∃ z, x = .str z ∧ R (strD z) (fun _ => True) μ1
theorem ji_str {l : Expr} {t : TE2} (hl : E2 X Z l t) : I2 X Z tg l (iStr2 t) := by
  refine pi_imp (pi_str hl) ?_
  rintro σ H R ⟨F, δ, μ, Q0, m, q, k⟩
  refine ⟨F, δ, μ, _, m, q, ?_⟩
  rintro x μ1 F1 H1 v ⟨z, rfl, q1⟩ g1 w1 r1
  cases r1
  refine ⟨z, rfl, k _ _ _ _ _ _ q1 g1 w1 ?_⟩
  intro F' H' μ' ff w' _
  refine ⟨fun i d hd => ?_, fun i hi => (by show z.cps.size ≤ i; simpa [strD] using hi)⟩
  unfold strD at hd
  rw [List.getElem?_map] at hd
  cases e : z.cps.toList[i]? with
  | none => rw [e] at hd; cases hd
  | some c =>
    rw [e] at hd
    cases hd
    have hi : i < z.cps.size := by
      have := (List.getElem?_eq_some_iff.mp e).1
      simpa using this
    refine ⟨hi, ?_⟩
    rintro x H2 ⟨rfl, c', hc, rfl⟩
    rw [← Array.getElem?_toList, e] at hc
    cases hc
    exact ⟨F', .refl, w', .str⟩

/-! ### comprehensions -/
def wipeD (δ : Sg) : List Nat → Sg
  | [] => δ
  | v :: vs => (wipeD δ vs).set v none
theorem repE_wipe {K : PySem.W.Frag} {F : Hp} {σ : Sv} {δ : Sg} (r : RepE K F σ δ) : ∀ vs : List Nat, RepE K F (wipe σ vs) (wipeD δ vs)
  | [] => r
  | v :: vs => (repE_wipe r vs).wipe1 v
theorem wipe_at {σ : Sv} : ∀ (vs : List Nat) (i : Nat), (wipe σ vs)[i]? = if i ∈ vs then σ[i]?.map (fun _ => none) else σ[i]?
  | [], i => by simp [wipe]
  | v :: vs, i => by
    rw [wipe, List.getElem?_set]
    have ih := wipe_at (σ := σ) vs i
    by_cases h : v = i
    · subst h
      simp only [if_true, List.mem_cons, true_or]
      rw [wipe_length]
      split
      · next hl => simp [hl]
      · next hl => simp [List.getElem?_eq_none (Nat.le_of_not_lt hl)]
    · rw [if_neg h, ih]
      have h' : ¬ i = v := fun e => h e.symm
      simp only [List.mem_cons, h', false_or]
theorem wipe_set {σ : Sv} {vs : List Nat} {j : Nat} (hj : j ∈ vs) (y : Option V) : wipe ((wipe σ vs).set j y) vs = wipe σ vs := by
  apply List.ext_getElem?
  intro i
  rw [wipe_at, wipe_at, List.getElem?_set, wipe_at, wipe_length]
  by_cases hi : i ∈ vs
  · simp only [hi, if_true]
    by_cases hji : j = i
    · subst hji
      simp only [if_true]
      split
      · next hl => simp [hl]
      · next hl => simp [List.getElem?_eq_none (Nat.le_of_not_lt hl)]
    · rw [if_neg hji]
      cases σ[i]? <;> simp
  · simp only [hi, if_false]
    have hji : ¬ j = i := fun e => hi (e ▸ hj)
    rw [if_neg hji]
/-- a target that stores into the slots vs alone -/
structure GW (K : PySem.W.Frag) (Z : Zw) (vs : List Nat) (g : TG) (g2 : TG2) : Prop where
  run : ∀ (v : V) (d : D) (σ : Sv) (F H : Hp) (δ : Sg) (μ : Mu) (Q0 : Sg → Mu → Prop) (Q : Sv → Hp → Prop), Mt K Z F (wipe σ vs) H δ μ → Rep K F v d → g2 d δ μ Q0 → (∀ δ' σ', Q0 δ' μ → Mt K Z F σ' H δ' μ → wipe σ' vs = wipe σ vs → Q σ' H) → g v (wipe σ vs) H Q
theorem gw_name {K : PySem.W.Frag} {vs : List Nat} {j : Nat} (hj : j ∈ vs) : GW K Z vs (gName j) (kName j) := ⟨fun v d σ F H δ μ Q0 Q m r q k => k _ _ q ⟨m.wd, m.env.set r j, m.z⟩ (wipe_set hj _)⟩
/-- names one after another -/
def kNames : List Nat → TGs2
  | [] => kNil
  | j :: js => kCons (kName j) (kNames js)
def gNames : List Nat → TGs
  | [] => gNil
  | j :: js => gCons (gName j) (gNames js)
theorem wipe_sets {σ τ : Sv} {vs : List Nat} {j : Nat} (hj : j ∈ vs) (h : wipe τ vs = wipe σ vs) (y : Option V) : wipe (τ.set j y) vs = wipe σ vs := by
  rw [← h]
  apply List.ext_getElem?
  intro i
  rw [wipe_at, wipe_at, List.getElem?_set]
  by_cases hi : i ∈ vs
  · simp only [hi, if_true]
    by_cases hji : j = i
    · subst hji
      simp only [if_true]
      split
      · next hl => simp [hl]
      · next hl => simp [List.getElem?_eq_none (Nat.le_of_not_lt hl)]
    · rw [if_neg hji]
  · simp only [hi, if_false]
    have hji : ¬ j = i := fun e => hi (e ▸ hj)
    rw [if_neg hji]
theorem gnames_run {K : PySem.W.Frag} {vs : List Nat} {σ : Sv} {F H : Hp} {μ : Mu} {Q0 : Sg → Mu → Prop} {Q : Sv → Hp → Prop} (k : ∀ δ' σ', Q0 δ' μ → Mt K Z F σ' H δ' μ → wipe σ' vs = wipe σ vs → Q σ' H) :
    ∀ (js : List Nat) (us : List V) (ds : List D) (τ : Sv) (δ : Sg), (∀ j ∈ js, j ∈ vs) → Mt K Z F τ H δ μ → wipe τ vs = wipe σ vs → Reps K F us ds → kNames js ds δ μ Q0 → gNames js us τ H Q
  | [], us, ds, τ, δ, _, m, hw, r, ⟨e, q⟩ => by
    subst e
    cases r
    exact ⟨rfl, k _ _ q m hw⟩
  | j :: js, us, ds, τ, δ, hj, m, hw, r, ⟨d, rr, e, q⟩ => by
    subst e
    cases r with
    | cons ra rb => exact ⟨_, _, rfl, gnames_run k js _ rr (τ.set j _) (δ.set j (some d)) (fun i hi => hj i (List.mem_cons_of_mem _ hi)) ⟨m.wd, m.env.set ra j, m.z⟩ (wipe_sets (hj j (List.mem_cons_self ..)) hw _) rb q⟩
theorem wipe_wipe {σ : Sv} {vs : List Nat} : wipe (wipe σ vs) vs = wipe σ vs := by
  apply List.ext_getElem?
  intro i
  rw [wipe_at, wipe_at]
  by_cases hi : i ∈ vs
  · simp only [hi, if_true]
    cases σ[i]? <;> simp
  · simp only [hi, if_false]
theorem gw_names {K : PySem.W.Frag} {vs : List Nat} {n : Nat} {js : List Nat} (hj : ∀ j ∈ js, j ∈ vs) : GW K Z vs (gTup K n (gNames js)) (kTup n (kNames js)) := ⟨fun v d σ F H δ μ Q0 Q m r q k => by
  obtain ⟨xs, rfl, hl, q⟩ := q
  obtain ⟨a, us, rfl, ha, rs⟩ := tup_at m.wd r
  exact ⟨a, us, rfl, ha, by rw [rs.length]; exact hl, gnames_run k js us xs _ δ hj m wipe_wipe rs q⟩⟩
def jLcl (g : TG2) (tt : TT2) (te : TE2) (δ0 : Sg) (G : Mu → Prop) (k : List D → Mu → Prop) : List D → List D → Mu → Prop
  | [], acc => fun μ => G μ ∧ k acc μ
  | x :: r, acc => fun μ => G μ ∧ g x δ0 μ fun δ1 μ1 => tt δ1 μ1 fun b μ2 => if b = true then te δ1 μ2 fun y μ3 => acc.length < sizeLine ∧ jLcl g tt te δ0 G k r (acc ++ [y]) μ3 else jLcl g tt te δ0 G k r acc μ2
/-- [elt for target in iter if ..]: the items one by one -/
def jLc (ti : TI2) (g : TG2) (tt : TT2) (te : TE2) (vs : List Nat) : TE2 := fun δ μ Q => ti δ μ fun items G μ1 => jLcl g tt te (wipeD δ vs) G (fun acc μ' => NewL acc μ' Q) items [] μ1
def jYes : TT2 := fun _ μ Q => Q true μ
theorem jts0 : PTs X [] (lowT X.K Z jYes) := ⟨fun pins s σ H Q I h => by
  obtain ⟨F, δ, μ, Q0, m, q, k⟩ := h
  exact (pts_nil (X := X)).run pins s σ H Q I (k true μ F H q .refl m.wd)⟩
theorem jts1 {c : Expr} {t : TT2} (h : T2 X Z c t) : PTs X [c] (lowT X.K Z t) := pts_one h
theorem low_lc {K : PySem.W.Frag} {ti : TI2} {g : TG} {g2 : TG2} {tt : TT2} {te : TE2} {vs : List Nat} {σ : Sv} {H : Hp} {Q : VK} (gw : GW K Z vs g g2) (h : lowE K Z (jLc ti g2 tt te vs) σ H Q) : tLc (lowI K Z ti) g (lowT K Z tt) (lowE K Z te) vs σ H Q := by
  obtain ⟨F, δ, μ, Q0, m, q, k⟩ := h
  refine ⟨F, δ, μ, _, m, q, ?_⟩
  intro items G μ1 F1 H1 J q1 g1 w1 io L hL
  have m1 := m.step g1 w1
  have fL : F1 L = none := by
    cases e : F1 L with
    | none => rfl
    | some u => rw [w1.sub _ _ e] at hL; cases hL
  have uL : μ1 L = none := by
    cases e : μ1 L with
    | none => rfl
    | some u =>
      obtain ⟨_, ho, e2, _⟩ := w1.mts _ _ e
      rw [e2] at hL; cases hL
  let P : Nat → Hp → Prop := fun i H2 => ∃ F2 μ2 acc us, Gr F1 H1 μ1 F2 H2 μ2 ∧ Wd K F2 H2 μ2 ∧ H2 L = some (.lst us) ∧ F2 L = none ∧ μ2 L = none ∧ Reps K F2 us acc ∧ jLcl g2 tt te (wipeD δ vs) G (fun acc μ' => NewL acc μ' Q0) (items.drop i) acc μ2
  have wr : ∀ {F2 H2 μ2} {us : List V}, Wd K F2 H2 μ2 → F2 L = none → μ2 L = none → Wd K F2 (upd H2 L (.lst us)) μ2 := by
    intro F2 H2 μ2 us w2 h1 h2
    refine ⟨fun b u e => by rw [upd_ne (fun z => by rw [z, h1] at e; cases e)]; exact w2.sub b u e, fun a u e => ?_⟩
    obtain ⟨x1, ho, x2, x3⟩ := w2.mts a u e
    exact ⟨x1, ho, by rw [upd_ne (fun z => by rw [z, h2] at e; cases e)]; exact x2, x3⟩
  have gr : ∀ {F2 H2 μ2} {us : List V}, Gr F1 H1 μ1 F2 H2 μ2 → Gr F1 H1 μ1 F2 (upd H2 L (.lst us)) μ2 := by
    intro F2 H2 μ2 us g
    refine ⟨g.ff, fun b u h1 h2 h3 => ?_⟩
    obtain ⟨x1, x2, x3⟩ := g.fr b u h1 h2 h3
    exact ⟨by rw [upd_ne (fun z => by rw [z, hL] at h1; cases h1)]; exact x1, x2, x3⟩
  refine ⟨fun i n H2 => n = items.length - i ∧ i ≤ items.length ∧ P i H2, ⟨_, rfl, Nat.zero_le _, F1, μ1, [], [], gr .refl, wr w1 fL uL, upd_same, fL, uL, .nil, q1⟩, ?_⟩
  rintro i n H2 ⟨rfl, hi, F2, μ2, acc, us, g2', w2, hL2, fL2, uL2, rs, q2⟩
  by_cases hlt : i < items.length
  · obtain ⟨x, hx, hd⟩ := drop_at hlt
    rw [hd] at q2
    obtain ⟨hG, q2⟩ := q2
    obtain ⟨go, yl⟩ := (io F2 H2 μ2 g2'.ff w2 hG).1 i x hx
    refine .inr ⟨go, P (i + 1), fun H' z => ⟨items.length - (i + 1), by omega, rfl, by omega, z⟩, ?_⟩
    intro xv H3 hy
    obtain ⟨F3, g3, w3, r3⟩ := yl xv H3 hy
    have gg3 := g2'.trans g3
    obtain ⟨hL3, fL3, uL3⟩ := g3.fr L _ hL2 fL2 uL2
    have m3 : Mt K Z F3 (wipe σ vs) H3 (wipeD δ vs) μ2 := ⟨w3, repE_wipe (m1.env.mono gg3.ff) vs, Z.up m1.z gg3⟩
    refine gw.run xv x σ F3 H3 _ μ2 _ _ m3 r3 q2 ?_
    intro δ4 σ4 q4 m4 hw4
    refine ⟨hw4, F3, δ4, μ2, _, m4, q4, ?_⟩
    intro b μ5 F5 H5 q5 g5 w5
    have gg5 := gg3.trans g5
    obtain ⟨hL5, fL5, uL5⟩ := g5.fr L _ hL3 fL3 uL3
    cases b with
    | true =>
      rw [if_pos rfl] at q5 ⊢
      refine ⟨F5, δ4, μ5, _, m4.step g5 w5, q5, ?_⟩
      rintro y μ6 F6 H6 yv ⟨hz, q6⟩ g6 w6 r6
      obtain ⟨hL6, fL6, uL6⟩ := g6.fr L _ hL5 fL5 uL5
      exact ⟨us, hL6, by rw [rs.length]; exact hz, F6, μ6, acc ++ [y], us ++ [yv], gr (gg5.trans g6), wr w6 fL6 uL6, upd_same, fL6, uL6, (rs.mono ((g3.trans g5).trans g6).ff).append (.cons r6 .nil), q6⟩
    | false =>
      rw [if_neg Bool.false_ne_true] at q5 ⊢
      exact ⟨F5, μ5, acc, us, gg5, w5, hL5, fL5, uL5, rs.mono (g3.trans g5).ff, q5⟩
  · have ei : i = items.length := by omega
    subst ei
    rw [List.drop_length] at q2
    obtain ⟨hG, q2⟩ := q2
    refine .inl ⟨(io F2 H2 μ2 g2'.ff w2 hG).2 _ (Nat.le_refl _), ?_⟩
    have back : ∀ b o, H b = some o → F b = none → μ b = none → b ≠ L := fun b o h1 h2 h3 z => by
      obtain ⟨x1, _⟩ := g1.fr b o h1 h2 h3
      rw [z, hL] at x1; cases x1
    have gt := g1.trans g2'
    rcases q2 with q2 | q2
    · have ff : Same F2 (upd F2 L (.lst us)) := fun b u e => by rw [upd_ne (ne_of_none e fL2)]; exact e
      have w3 : Wd K (upd F2 L (.lst us)) H2 μ2 := by
        refine ⟨fun b u e => ?_, fun a u e => ?_⟩
        · by_cases hb : b = L
          · subst hb; rw [upd_same] at e; rw [hL2]; exact e
          · rw [upd_ne hb] at e; exact w2.sub b u e
        · obtain ⟨x1, ho, x2, x3⟩ := w2.mts a u e
          exact ⟨by rw [upd_ne (fun z => by rw [z, uL2] at e; cases e)]; exact x1, ho, x2, x3.mono ff⟩
      refine k _ μ2 _ H2 _ q2 ⟨gt.ff.trans ff, fun b o h1 h2 h3 => ?_⟩ w3 (.lst upd_same (rs.mono ff))
      obtain ⟨x1, x2, x3⟩ := gt.fr b o h1 h2 h3
      exact ⟨x1, by rw [upd_ne (back b o h1 h2 h3)]; exact x2, x3⟩
    · have w3 : Wd K F2 H2 (mup μ2 L (.lst acc)) := by
        refine ⟨w2.sub, fun a u e => ?_⟩
        by_cases ha : a = L
        · subst ha
          rw [mup_same] at e; cases e
          exact ⟨fL2, _, hL2, .lst rs⟩
        · rw [mup_ne ha] at e
          exact w2.mts a u e
      refine k _ _ _ H2 _ (q2 L uL2) ⟨gt.ff, fun b o h1 h2 h3 => ?_⟩ w3 .ref
      obtain ⟨x1, x2, x3⟩ := gt.fr b o h1 h2 h3
      exact ⟨x1, x2, by rw [mup_ne (back b o h1 h2 h3)]; exact x3⟩
theorem jlc {elt tg iter : Expr} {ifs : List Expr} {scope : Scope} {own : List (Str × Nat)} {pos : Pos} {ti : TI2} {g : TG} {g2 : TG2} {tt : TT2} {te : TE2} (hc : X.calm = true) (hN : X.N.Nodup) (hi : I2 X Z tg iter ti) (ok : BlkOk X.N X.env.scope scope own) (gw : GW X.K Z (own.map (·.2)) g g2)
    (hg : ∀ (s : Shared) (H : Hp) (C : Addr) (cl : List (Str × Addr)) (fp : List Addr), PG (X.blk s H scope (compEnvC scope cl C X.env) fp) tg g) (ht : ∀ (s : Shared) (H : Hp) (C : Addr) (cl : List (Str × Addr)) (fp : List Addr), PTs (X.blk s H scope (compEnvC scope cl C X.env) fp) ifs (lowT X.K Z tt))
    (he : ∀ (s : Shared) (H : Hp) (C : Addr) (cl : List (Str × Addr)) (fp : List Addr), E2 (X.blk s H scope (compEnvC scope cl C X.env) fp) Z elt te) (hs : ∀ x, foldedSetIterable iter X.env x = pure x := by intro _; rfl) :
    E2 X Z (.ListComp elt [⟨tg, iter, ifs, 0⟩] scope pos) (jLc ti g2 tt te (own.map (·.2))) := pe_imp (pe_lc hc hN hi ok hg ht he hs) fun _ _ _ q => low_lc gw q
theorem js_setLc {i : Nat} {y : Str} {py : Pos} {elt tg iter : Expr} {ifs : List Expr} {scope : Scope} {own : List (Str × Nat)} {pos spos : Pos} {ti : TI2} {g : TG} {g2 : TG2} {tt : TT2} {te : TE2} (hc : X.calm = true) (hN : X.N.Nodup) (hy : X.N[i]? = some y) (hyl : X.env.scope.names.lookup y = some .local)
    (hsw : swapsWith (.ListComp elt [⟨tg, iter, ifs, 0⟩] scope pos) (some (.Name y py)) spos.line X.env = pure true) (hi : I2 X Z tg iter ti) (ok : BlkOk X.N X.env.scope scope own) (gw : GW X.K Z (own.map (·.2)) g g2)
    (hg : ∀ (s : Shared) (H : Hp) (C : Addr) (cl : List (Str × Addr)) (fp : List Addr), PG (X.blk s H scope (compEnvC scope cl C X.env) fp) tg g) (ht : ∀ (s : Shared) (H : Hp) (C : Addr) (cl : List (Str × Addr)) (fp : List Addr), PTs (X.blk s H scope (compEnvC scope cl C X.env) fp) ifs (lowT X.K Z tt))
    (he : ∀ (s : Shared) (H : Hp) (C : Addr) (cl : List (Str × Addr)) (fp : List Addr), E2 (X.blk s H scope (compEnvC scope cl C X.env) fp) Z elt te) (hs : ∀ x, foldedSetIterable iter X.env x = pure x := by intro _; rfl) :
    S2 X Z (.Assign [.Name y py] (.ListComp elt [⟨tg, iter, ifs, 0⟩] scope pos) spos) (jAsg (jLc ti g2 tt te (own.map (·.2))) (kName i)) := by
  refine ps_imp (ps_setLc (te := lowE X.K Z te) hc hN hy hyl hsw hi ok hg ht he hs) ?_
  rintro D σ H ⟨F, δ, μ, D2, m, q, e⟩
  refine low_lc gw (K := X.K) (Z := Z) ⟨F, δ, μ, _, m, q, ?_⟩
  intro d μ1 F1 H1 v q1 g1 w1 r1
  have m1 := m.step g1 w1
  exact e.nx _ μ1 F1 _ H1 q1 g1 ⟨w1, m1.env.set r1 i, m1.z⟩

/-! ### displays of dicts -/
def jPairs : List (TE2 × TE2) → Sg → Mu → (List (D × D) → Mu → Prop) → Prop
  | [], _, μ, Q => Q [] μ
  | (tk, tv) :: r, δ, μ, Q => tk δ μ fun x μ1 => tv δ μ1 fun y μ2 => jPairs r δ μ2 fun ps μ3 => Q ((x, y) :: ps) μ3
inductive RepP (K : PySem.W.Frag) (F : Hp) : List (V × V) → List (D × D) → Prop
  | nil : RepP K F [] []
  | cons {v w d e vs ds} : Rep K F v d → Rep K F w e → RepP K F vs ds → RepP K F ((v, w) :: vs) ((d, e) :: ds)
def lowP (K : PySem.W.Frag) (Z : Zw) : List (TE2 × TE2) → List (TE × TE) := List.map fun p => (lowE K Z p.1, lowE K Z p.2)
theorem low_pairs {K : PySem.W.Frag} {σ : Sv} {δ : Sg} : ∀ (trs : List (TE2 × TE2)) {F H : Hp} {μ : Mu} {Q0 : List (D × D) → Mu → Prop} {Q : List (V × V) → Hp → Prop}, Mt K Z F σ H δ μ → jPairs trs δ μ Q0 →
    (∀ ps μ' F' H' vs, Q0 ps μ' → Gr F H μ F' H' μ' → Wd K F' H' μ' → RepP K F' vs ps → Q vs H') → tPairs (lowP K Z trs) σ H Q
  | [], F, H, μ, Q0, Q, m, q, k => k [] μ F H [] q .refl m.wd .nil
  | (tk, tv) :: r, F, H, μ, Q0, Q, m, q, k => by
    refine ⟨F, δ, μ, _, m, q, ?_⟩
    intro x μ1 F1 H1 v q1 g1 w1 r1
    refine ⟨F1, δ, μ1, _, m.step g1 w1, q1, ?_⟩
    intro y μ2 F2 H2 u q2 g2 w2 r2
    refine low_pairs r ((m.step g1 w1).step g2 w2) q2 ?_
    intro ps μ3 F3 H3 vs q3 g3 w3 r3
    exact k _ _ _ _ _ q3 ((g1.trans g2).trans g3) w3 (.cons ((r1.mono g2.ff).mono g3.ff) (r2.mono g3.ff) r3)
def keysOf : List (D × D) → Option (List (Key × D))
  | [] => some []
  | (k, v) :: r => (keyD k).bind fun k' => (keysOf r).map fun rs => (k', v) :: rs
theorem keysOf_rep {K : PySem.W.Frag} {F : Hp} : ∀ {vs : List (V × V)} {ps : List (D × D)} {kvs : List (Key × D)}, RepP K F vs ps → keysOf ps = some kvs → ∃ kws : List (Key × V), vs = kws.map (fun kv => (kV kv.1, kv.2)) ∧ RepK K F kws kvs
  | _, _, _, .nil, h => by
    cases h
    exact ⟨[], rfl, .nil⟩
  | _, _, _, .cons (d := d) (ds := ds) r1 r2 t, h => by
    unfold keysOf at h
    cases e : keyD d with
    | none => rw [e] at h; cases h
    | some kk =>
      rw [e] at h
      cases e2 : keysOf ds with
      | none => rw [e2] at h; cases h
      | some rs =>
        rw [e2] at h
        cases h
        obtain ⟨kws, rfl, rk⟩ := keysOf_rep t e2
        have e3 := keyD_rep r1 e
        subst e3
        exact ⟨_ :: kws, rfl, .cons r2 rk⟩
def jDisp (trs : List (TE2 × TE2)) : TE2 := fun δ μ Q => jPairs trs δ μ fun ps μ1 => ∃ kvs, keysOf ps = some kvs ∧ kvs.length ≤ 15 ∧ NewD (mergeD [] kvs) μ1 Q
theorem jpps0 {pos : Pos} : PPs X pos [] [] (lowP X.K Z []) := pps_nil
theorem jpps {pos : Pos} {k v : Expr} {ks : List (Option Expr)} {vs : List Expr} {tk tv : TE2} {trs : List (TE2 × TE2)} (hk : E2 X Z k tk) (hv : E2 X Z v tv) (hr : PPs X pos ks vs (lowP X.K Z trs)) : PPs X pos (some k :: ks) (v :: vs) (lowP X.K Z ((tk, tv) :: trs)) := pps_cons hk hv hr
theorem jdisp {pos : Pos} {keys : List (Option Expr)} {values : List Expr} {trs : List (TE2 × TE2)} {y : PE X (.Dict keys values pos) (tDisp (lowP X.K Z trs))} : E2 X Z (.Dict keys values pos) (jDisp trs) := by
  refine pe_imp y ?_
  rintro σ H Q ⟨F, δ, μ, Q0, m, q, k⟩ p hp
  have fp : F p = none := by
    cases e : F p with
    | none => rfl
    | some u => rw [m.wd.sub _ _ e] at hp; cases hp
  have up : μ p = none := by
    cases e : μ p with
    | none => rfl
    | some u =>
      obtain ⟨_, ho, e2, _⟩ := m.wd.mts _ _ e
      rw [e2] at hp; cases hp
  have w0 : Wd X.K F (upd H p (.dK [])) μ := by
    refine ⟨fun b u e => by rw [upd_ne (ne_of_none e fp)]; exact m.wd.sub b u e, fun a u e => ?_⟩
    obtain ⟨x1, ho, x2, x3⟩ := m.wd.mts a u e
    exact ⟨x1, ho, by rw [upd_ne (ne_of_none x2 hp)]; exact x2, x3⟩
  have g0 : Gr F H μ F (upd H p (.dK [])) μ := ⟨Same.refl _, fun b o h1 h2 h3 => ⟨by rw [upd_ne (ne_of_none h1 hp)]; exact h1, h2, h3⟩⟩
  refine low_pairs (Z := Z) (K := X.K) (δ := δ) trs (m.step g0 w0) q ?_
  rintro ps μ1 F1 H1 vs ⟨kvs, hk, hl, n⟩ g1 w1 r1
  obtain ⟨h1, f1, u1⟩ := g1.fr p _ upd_same fp up
  obtain ⟨kws, rfl, rk⟩ := keysOf_rep r1 hk
  refine ⟨h1, kws, rfl, by rw [rk.length]; exact hl, ?_⟩
  have rm : RepK X.K F1 (mergeK [] kws) (mergeD [] kvs) := rk.merge .nil
  -- the dict's own place, told anew
  have back : ∀ b o, H b = some o → b ≠ p := fun b o h z => by rw [z, hp] at h; cases h
  have g01 := g0.trans g1
  rcases n with n | n
  · have ff : Same F1 (upd F1 p (.dK (mergeK [] kws))) := fun b u e => by rw [upd_ne (ne_of_none e f1)]; exact e
    refine k _ μ1 (upd F1 p (.dK (mergeK [] kws))) _ _ n ⟨g01.ff.trans ff, fun b o x1 x2 x3 => ?_⟩ ⟨fun b u e => ?_, fun a u e => ?_⟩ (.dct upd_same (rm.mono ff))
    · obtain ⟨y1, y2, y3⟩ := g01.fr b o x1 x2 x3
      exact ⟨by rw [upd_ne (back b o x1)]; exact y1, by rw [upd_ne (back b o x1)]; exact y2, y3⟩
    · by_cases hb : b = p
      · subst hb; rw [upd_same] at e ⊢; exact e
      · rw [upd_ne hb] at e ⊢; exact w1.sub b u e
    · obtain ⟨y1, ho, y2, y3⟩ := w1.mts a u e
      have ha : a ≠ p := fun z => by rw [z, u1] at e; cases e
      exact ⟨by rw [upd_ne ha]; exact y1, ho, by rw [upd_ne ha]; exact y2, y3.mono ff⟩
  · refine k _ (mup μ1 p (.dct (mergeD [] kvs))) F1 _ _ (n p u1) ⟨g01.ff, fun b o x1 x2 x3 => ?_⟩ ⟨fun b u e => ?_, fun a u e => ?_⟩ .ref
    · obtain ⟨y1, y2, y3⟩ := g01.fr b o x1 x2 x3
      exact ⟨by rw [upd_ne (back b o x1)]; exact y1, y2, by rw [mup_ne (back b o x1)]; exact y3⟩
    · have hb : b ≠ p := fun z => by rw [z, f1] at e; cases e
      rw [upd_ne hb]; exact w1.sub b u e
    · by_cases ha : a = p
      · subst ha
        rw [mup_same] at e; cases e
        exact ⟨f1, _, upd_same, .dct rm⟩
      · rw [mup_ne ha] at e
        obtain ⟨y1, ho, y2, y3⟩ := w1.mts a u e
        exact ⟨y1, ho, by rw [upd_ne ha]; exact y2, y3⟩
def jDnew : TE2 := fun _ μ Q => NewD [] μ Q
theorem jdnew {pos : Pos} : E2 X Z (.Dict [] [] pos) jDnew := by
  refine pe_imp pe_dnewK ?_
  rintro σ H Q ⟨F, δ, μ, Q0, m, q, k⟩ p hp
  exact newD_ok m.wd hp .nil q k

/-! ### a, b = x, y -/
def jPar (is : List Nat) (t : TA2) : TS2 := fun D δ μ => t δ μ fun ds μ1 => ds.length = is.length ∧ D.nx ((is.zip ds).foldl (fun δ p => δ.set p.1 (some p.2)) δ) μ1
theorem js_par {i j : Nat} {x y : Str} {a b : Expr} {t : TA2} {px py pt pos : Pos} {kt k2 pt2} (hij : i ≠ j) (h : PS X (.Assign [.Tuple [.Name x px, .Name y py] kt pt] (.Tuple [a, b] k2 pt2) pos) (tPar i j (lowA X.K Z t))) :
    S2 X Z (.Assign [.Tuple [.Name x px, .Name y py] kt pt] (.Tuple [a, b] k2 pt2) pos) (jPar [i, j] t) := by
  refine ps_imp h ?_
  rintro D σ H ⟨F, δ, μ, D2, m, q, e⟩
  refine ⟨F, δ, μ, _, m, q, ?_⟩
  rintro ds μ1 F1 H1 vs ⟨hl, q1⟩ g1 w1 r1
  obtain ⟨d1, d2, rfl⟩ : ∃ d1 d2, ds = [d1, d2] := by
    match ds, hl with
    | [d1, d2], _ => exact ⟨d1, d2, rfl⟩
  obtain ⟨v1, v2, rfl, ra, rb⟩ := r1.two
  have m1 := m.step g1 w1
  exact ⟨v1, v2, rfl, e.nx _ _ _ _ _ q1 g1 ⟨w1, (m1.env.set ra i).set rb j, m1.z⟩⟩
theorem Reps.three {K : PySem.W.Frag} {F : Hp} {vs : List V} {d e f : D} (r : Reps K F vs [d, e, f]) : ∃ v u w, vs = [v, u, w] ∧ Rep K F v d ∧ Rep K F u e ∧ Rep K F w f := by
  cases r with
  | cons r t =>
    cases t with
    | cons r2 t =>
      cases t with
      | cons r3 t => cases t; exact ⟨_, _, _, rfl, r, r2, r3⟩
theorem js_par3 {i j l : Nat} {x y z : Str} {a b c : Expr} {t : TA2} {px py pz pt pos : Pos} {kt k2 pt2} (h : PS X (.Assign [.Tuple [.Name x px, .Name y py, .Name z pz] kt pt] (.Tuple [a, b, c] k2 pt2) pos) (tPar3 i j l (lowA X.K Z t))) :
    S2 X Z (.Assign [.Tuple [.Name x px, .Name y py, .Name z pz] kt pt] (.Tuple [a, b, c] k2 pt2) pos) (jPar [i, j, l] t) := by
  refine ps_imp h ?_
  rintro D σ H ⟨F, δ, μ, D2, m, q, e⟩
  refine ⟨F, δ, μ, _, m, q, ?_⟩
  rintro ds μ1 F1 H1 vs ⟨hl, q1⟩ g1 w1 r1
  obtain ⟨d1, d2, d3, rfl⟩ : ∃ d1 d2 d3, ds = [d1, d2, d3] := by
    match ds, hl with
    | [d1, d2, d3], _ => exact ⟨d1, d2, d3, rfl⟩
  obtain ⟨v1, v2, v3, rfl, ra, rb, rc⟩ := r1.three
  have m1 := m.step g1 w1
  exact ⟨v1, v2, v3, rfl, e.nx _ _ _ _ _ q1 g1 ⟨w1, ((m1.env.set ra i).set rb j).set rc l, m1.z⟩⟩

/-! ### x += e -/
def jAug (i : Nat) (t : TE2) (r : O2) : TS2 := fun D δ μ => ∃ d, δ[i]? = some (some d) ∧ t δ μ fun e μ1 => r d e μ1 fun z μ2 => D.nx (δ.set i (some z)) μ2
def augI (g : Int → Int → Int) : O2
  | .int i, .int j, μ, Q => Q (.int (g i j)) μ
  | _, _, _, _ => False
theorem js_augI {i : Nat} {x : Str} {e : Expr} {t : TE2} {op : Operator} {pos' pos : Pos} {g : Int → Int → Int} (hN : X.N.Nodup) (hi : X.N[i]? = some x) (hx : Loc X.env.scope x) (he : E2 X Z e t) (ho : PIp X op (ipI g)) (hf : X.fn x = true ∨ X.env.scope.names.lookup x = some .local := by first | exact .inl rfl | exact .inr rfl | assumption) :
    S2 X Z (.AugAssign (.Name x pos') op e pos) (jAug i t (augI g)) := by
  refine ps_imp (ps_aug hN hi hx he ho hf) ?_
  rintro D σ H ⟨F, δ, μ, D2, m, ⟨d, hd, q⟩, e⟩
  obtain ⟨v, hv, rv⟩ := m.env.get hd
  refine ⟨v, hv, F, δ, μ, _, m, q, ?_⟩
  rintro y μ1 F1 H1 u q1 g1 w1 r1
  unfold augI at q1
  split at q1 <;> first | exact False.elim q1 | skip
  cases rv; cases r1
  have m1 := m.step g1 w1
  exact ⟨_, _, rfl, rfl, e.nx _ _ _ _ _ q1 g1 ⟨w1, m1.env.set .int i, m1.z⟩⟩
end
end J

namespace J
open PySem PySem.Spec PyProof.Rows L2
/-! ### the built-ins' names -/
theorem bb_len : bootBuiltins "len" = some (.builtin "len") := by decide +kernel
theorem bb_abs : bootBuiltins "abs" = some (.builtin "abs") := by decide +kernel
theorem bb_max : bootBuiltins "max" = some (.builtin "max") := by decide +kernel
theorem bb_min : bootBuiltins "min" = some (.builtin "min") := by decide +kernel
theorem bb_sum : bootBuiltins "sum" = some (.builtin "sum") := by decide +kernel
theorem bb_all : bootBuiltins "all" = some (.builtin "all") := by decide +kernel
theorem bb_sorted : bootBuiltins "sorted" = some (.builtin "sorted") := by decide +kernel
theorem bb_isinstance : bootBuiltins "isinstance" = some (.builtin "isinstance") := by decide +kernel
theorem bb_int : bootBuiltins "int" = some (.type "int") := by decide +kernel
theorem bb_bool : bootBuiltins "bool" = some (.type "bool") := by decide +kernel
theorem bb_str : bootBuiltins "str" = some (.type "str") := by decide +kernel
theorem bb_list : bootBuiltins "list" = some (.type "list") := by decide +kernel
theorem bb_tuple : bootBuiltins "tuple" = some (.type "tuple") := by decide +kernel
theorem bb_dict : bootBuiltins "dict" = some (.type "dict") := by decide +kernel
end J
namespace J
open PySem PySem.Spec PyProof.Rows L2
def rev1 : O1 := fun x μ Q => ∃ xs, SeqAt μ x xs ∧ NewL xs.reverse μ Q
/-! ### small words for readings -/
theorem w_true {A B : Prop} (h : A) : if true = true then A else B := by rw [if_pos rfl]; exact h
theorem w_false {A B : Prop} (h : B) : if false = true then A else B := by rw [if_neg Bool.false_ne_true]; exact h
theorem w_if {b : Bool} {A B : Prop} (h1 : b = true → A) (h2 : b = false → B) : if b = true then A else B := by
  cases b with
  | true => exact w_true (h1 rfl)
  | false => exact w_false (h2 rfl)
theorem w_ifd {c A B : Prop} [Decidable c] (h1 : c → A) (h2 : ¬ c → B) : if decide c = true then A else B := by
  by_cases h : c
  · rw [decide_eq_true h]; exact w_true (h1 h)
  · rw [decide_eq_false h]; exact w_false (h2 h)
theorem w_ifn {c A B : Prop} [Decidable c] (h1 : ¬ c → A) (h2 : c → B) : if (!decide c) = true then A else B := by
  by_cases h : c
  · rw [decide_eq_true h]; exact w_false (h2 h)
  · rw [decide_eq_false h]; exact w_true (h1 h)
theorem NewL.f {xs : List D} {μ : Mu} {Q : QE} (h : Q (.lst xs) μ) : NewL xs μ Q := .inl h
theorem NewL.m {xs : List D} {μ : Mu} {Q : QE} (h : ∀ p, μ p = none → Q (.ref p) (mup μ p (.lst xs))) : NewL xs μ Q := .inr h
theorem NewD.f {xs : List (Key × D)} {μ : Mu} {Q : QE} (h : Q (.dct xs) μ) : NewD xs μ Q := .inl h
theorem NewD.m {xs : List (Key × D)} {μ : Mu} {Q : QE} (h : ∀ p, μ p = none → Q (.ref p) (mup μ p (.dct xs))) : NewD xs μ Q := .inr h
end J

namespace J
open PySem PySem.Spec PyProof.Rows L2
section
variable {D0 : Ends2} {δ δ' : Sg} {μ : Mu} {Q : QE} {QB : Bool → Mu → Prop} {QA : List D → Mu → Prop} {QS : Sg → Mu → Prop} {d e : D} {i j : Int} {k : Nat}
theorem x_seq {t u : TS2} (h : t { nx := u D0, rt := D0.rt, bk := D0.bk, ct := D0.ct } δ μ) : jSeq t u D0 δ μ := h
theorem x_asg {t : TE2} {g : TG2} (h : t δ μ fun d μ1 => g d δ μ1 D0.nx) : jAsg t g D0 δ μ := h
theorem x_ret {t : TE2} (h : t δ μ D0.rt) : jRet t D0 δ μ := h
theorem x_retN (h : D0.rt .non μ) : jRetN D0 δ μ := h
theorem x_ifs {c : TT2} {t u : TS2} (h : c δ μ fun b μ1 => if b = true then t D0 δ μ1 else u D0 δ μ1) : jIfS c t u D0 δ μ := h
theorem x_next (h : D0.nx δ μ) : jNext D0 δ μ := h
theorem x_brk (h : D0.bk δ μ) : jBreak D0 δ μ := h
theorem x_cont (h : D0.ct δ μ) : jCont D0 δ μ := h
theorem x_drop {t : TE2} (h : t δ μ fun _ μ1 => D0.nx δ μ1) : jDrop t D0 δ μ := h
theorem x_name (e : δ.set k (some d) = δ') (h : QS δ' μ) : kName k d δ μ QS := by
  subst e
  exact h
theorem x_par {is : List Nat} {t : TA2} (h : t δ μ fun ds μ1 => ds.length = is.length ∧ D0.nx ((is.zip ds).foldl (fun δ p => δ.set p.1 (some p.2)) δ) μ1) : jPar is t D0 δ μ := h
theorem x_aug {t : TE2} {r : O2} (hd : δ[k]? = some (some d)) (h : t δ μ fun e μ1 => r d e μ1 fun z μ2 => D0.nx (δ.set k (some z)) μ2) : jAug k t r D0 δ μ := ⟨d, hd, h⟩
theorem x_augI {g : Int → Int → Int} (h : Q (.int (g i j)) μ) : augI g (.int i) (.int j) μ Q := h
theorem x_var (e : δ[k]? = some (some d)) (h : Q d μ) : jVar k δ μ Q := ⟨d, e, h⟩
theorem x_c (h : Q d μ) : jC d δ μ Q := h
theorem x_op {r : O2} {ta tb : TE2} (h : ta δ μ fun x μ1 => tb δ μ1 fun y μ2 => r x y μ2 Q) : jOp r ta tb δ μ Q := h
theorem x_un {r : O1} {ta : TE2} (h : ta δ μ fun x μ1 => r x μ1 Q) : jUn r ta δ μ Q := h
theorem x_test {t : TE2} (h : t δ μ fun x μ1 => ∃ k, x = .bl k ∧ QB k μ1) : jTest t δ μ QB := h
theorem x_blk {b : Bool} {R : Bool → Prop} (h : R b) : ∃ k, D.bl b = .bl k ∧ R k := ⟨b, rfl, h⟩
theorem x_chain {r r' : O2} {ta tb tc : TE2} (h : ta δ μ fun x μ1 => tb δ μ1 fun y μ2 => r x y μ2 fun z μ3 => ∃ k, z = .bl k ∧ (if k = true then tc δ μ3 fun w μ4 => r' y w μ4 Q else Q (.bl false) μ3)) : jChain r r' ta tb tc δ μ Q := h
theorem x_and {t u : TT2} (h : t δ μ fun c μ1 => if c = true then u δ μ1 QB else QB false μ1) : jAnd t u δ μ QB := h
theorem x_or {t u : TT2} (h : t δ μ fun c μ1 => if c = true then QB true μ1 else u δ μ1 QB) : jOr t u δ μ QB := h
theorem x_not {t : TT2} (h : t δ μ fun c μ1 => QB (!c) μ1) : jNot t δ μ QB := h
theorem x_andV {ta tb : TE2} (h : ta δ μ fun x μ1 => ∃ c, x = .bl c ∧ if c = true then tb δ μ1 Q else Q (.bl false) μ1) : jAndV ta tb δ μ Q := h
theorem x_orV {ta tb : TE2} (h : ta δ μ fun x μ1 => ∃ c, x = .bl c ∧ if c = true then Q (.bl true) μ1 else tb δ μ1 Q) : jOrV ta tb δ μ Q := h
theorem x_notV {ta : TE2} (h : ta δ μ fun x μ1 => ∃ c, x = .bl c ∧ Q (.bl (!c)) μ1) : jNotV ta δ μ Q := h
theorem x_if {t : TT2} {ta tb : TE2} (h : t δ μ fun c μ1 => if c = true then ta δ μ1 Q else tb δ μ1 Q) : jIf t ta tb δ μ Q := h
theorem x_nil (h : QA [] μ) : jNil δ μ QA := h
theorem x_cons {ta : TE2} {tr : TA2} (h : ta δ μ fun x μ1 => tr δ μ1 fun xs μ2 => QA (x :: xs) μ2) : jCons ta tr δ μ QA := h
theorem x_tup {t : TA2} (h : t δ μ fun xs μ1 => xs.length ≤ sizeLine ∧ Q (.tup xs) μ1) : jTup t δ μ Q := h
theorem x_lst {t : TA2} (h : t δ μ fun xs μ1 => xs.length ≤ sizeLine ∧ NewL xs μ1 Q) : jLst t δ μ Q := h
theorem x_cb {r : OA} {t : TA2} (h : t δ μ fun ds μ1 => r ds μ1 Q) : jCB r t δ μ Q := h
theorem x_call {sp : Sp2} {dds : List D} {ex : Ex2} {t : TA2} (h : t δ μ fun ds μ1 => sp (ds ++ dds) μ1 (Upd Q) ex) : jCall sp dds ex t δ μ Q := h
theorem x_bm0 {T : String} {r : OM} {t : TE2} (h : t δ μ fun x μ1 => TyM T x μ1 ∧ r x [] μ1 Q) : jBM0 T r t δ μ Q := h
theorem x_bm {T : String} {r : OM} {to : TE2} {t : TA2} (h : to δ μ fun x μ1 => TyM T x μ1 ∧ t δ μ1 fun ds μ2 => r x ds μ2 Q) : jBM T r to t δ μ Q := h
theorem x_sl {te : TE2} {tl th : TO2} (h : te δ μ fun x μ1 => tl δ μ1 fun l μ2 => th δ μ2 fun u μ3 => sl2 x l u μ3 Q) : jSl te tl th δ μ Q := h
theorem x_nopart {QO : Option Int → Mu → Prop} (h : QO none μ) : jNoPart δ μ QO := h
theorem x_part {QO : Option Int → Mu → Prop} {te : TE2} (h : te δ μ fun x μ1 => ∃ i, x = .int i ∧ QO (some i) μ1) : jPart te δ μ QO := h
theorem x_parti {R : Int → Prop} (h : R i) : ∃ k, D.int i = .int k ∧ R k := ⟨i, rfl, h⟩
theorem x_sub {to ti : TE2} (h : to δ μ fun o μ1 => ti δ μ1 fun i μ2 => set2 o i d μ2 fun μ3 => QS δ μ3) : kSub to ti d δ μ QS := h
theorem x_for {ti : TI2} {g : TG2} {tb : TS2} (h : ti δ μ fun items G μ1 => jLoop g tb G D0 items δ μ1) : jFor ti g tb D0 δ μ := h
theorem x_lc {ti : TI2} {g : TG2} {tt : TT2} {te : TE2} {vs : List Nat} (h : ti δ μ fun items G μ1 => jLcl g tt te (wipeD δ vs) G (fun acc μ' => NewL acc μ' Q) items [] μ1) : jLc ti g tt te vs δ μ Q := h
theorem x_yes (h : QB true μ) : jYes δ μ QB := h
theorem x_disp {trs : List (TE2 × TE2)} (h : jPairs trs δ μ fun ps μ1 => ∃ kvs, keysOf ps = some kvs ∧ kvs.length ≤ 15 ∧ NewD (mergeD [] kvs) μ1 Q) : jDisp trs δ μ Q := h
theorem x_pairs0 {QP : List (D × D) → Mu → Prop} (h : QP [] μ) : jPairs [] δ μ QP := h
theorem x_pairs {QP : List (D × D) → Mu → Prop} {tk tv : TE2} {r : List (TE2 × TE2)} (h : tk δ μ fun x μ1 => tv δ μ1 fun y μ2 => jPairs r δ μ2 fun ps μ3 => QP ((x, y) :: ps) μ3) : jPairs ((tk, tv) :: r) δ μ QP := h
theorem x_dnew (h : NewD [] μ Q) : jDnew δ μ Q := h
/-! ### operations -/
theorem x_add (h : Q (.int (i + j)) μ) : add2 (.int i) (.int j) μ Q := h
theorem x_addS {x y : Str} (hl : x.length + y.length ≤ sizeLine) (h : Q (.str (x ++ y)) μ) : add2 (.str x) (.str y) μ Q := ⟨hl, h⟩
theorem x_addT {xs ys : List D} (hl : xs.length + ys.length ≤ sizeLine) (h : Q (.tup (xs ++ ys)) μ) : add2 (.tup xs) (.tup ys) μ Q := ⟨hl, h⟩
theorem x_addL {xs ys : List D} (hl : xs.length + ys.length ≤ sizeLine) (h : NewL (xs ++ ys) μ Q) : add2 (.lst xs) (.lst ys) μ Q := ⟨xs, ys, .f, .f, hl, h⟩
theorem x_addM {a : Addr} {xs ys : List D} (ha : μ a = some (.lst xs)) (hl : xs.length + ys.length ≤ sizeLine) (h : NewL (xs ++ ys) μ Q) : add2 (.ref a) (.lst ys) μ Q := ⟨xs, ys, .m ha, .f, hl, h⟩
theorem x_subI (h : Q (.int (i - j)) μ) : sub2 (.int i) (.int j) μ Q := h
theorem x_mul (hc : CMul i j ∨ CMulW i j) (h : Q (.int (i * j)) μ) : mul2 (.int i) (.int j) μ Q := ⟨hc, h⟩
theorem x_int2 {C : Int → Int → Prop} {g : Int → Int → D} (hc : C i j) (h : Q (g i j) μ) : int2 C g (.int i) (.int j) μ Q := ⟨hc, h⟩
theorem x_mulR (hj : -(2 ^ 64) < j ∧ j < 2 ^ 64) (h : Q (.int (i * j)) μ) : mul2 (.int i) (.int j) μ Q := ⟨.inl (.inr hj), h⟩
theorem x_mulL (hj : -(2 ^ 64) < i ∧ i < 2 ^ 64) (h : Q (.int (i * j)) μ) : mul2 (.int i) (.int j) μ Q := ⟨.inl (.inl hj), h⟩
theorem x_mod (hj : 0 < j) (h : Q (.int (i % j)) μ) : mod2 (.int i) (.int j) μ Q := ⟨hj, h⟩
theorem x_fdiv (hj : 0 < j) (hb : j.natAbs.log2 < 9000) (h : Q (.int (i / j)) μ) : fdiv2 (.int i) (.int j) μ Q := ⟨⟨hj, hb⟩, h⟩
theorem x_shr (hj : 0 ≤ j) (h : Q (.int (i / 2 ^ j.toNat)) μ) : shr2 (.int i) (.int j) μ Q := ⟨hj, h⟩
theorem x_pow (hj : 0 ≤ j ∧ j ≤ 1000000 ∧ i.natAbs < 2 ^ 64) (h : Q (.int (i ^ j.toNat)) μ) : pow2 (.int i) (.int j) μ Q := ⟨hj, h⟩
theorem atI_some {xs : List D} {k : Nat} {d : D} (h : xs[k]? = some d) : atI xs (k : Int) = some d := atI_nat h
theorem ixN_nat {n k : Nat} (h : k < n) : ixN n (k : Int) = some k := by
  unfold ixN
  rw [if_pos (by omega), if_pos (by omega)]
  simp
theorem x_neg (h : Q (.int (-i)) μ) : neg1 (.int i) μ Q := h
theorem x_cmp {ci : Int → Int → Bool} {cs : Str → Str → Bool} (h : Q (.bl (ci i j)) μ) : cmp2 ci cs (.int i) (.int j) μ Q := h
theorem x_cmpS {ci : Int → Int → Bool} {cs : Str → Str → Bool} {x y : Str} (h : Q (.bl (cs x y)) μ) : cmp2 ci cs (.str x) (.str y) μ Q := h
theorem x_eqI (h : Q (.bl (decide (i = j))) μ) : eq2 (.int i) (.int j) μ Q := h
theorem x_eqS {x y : Str} (h : Q (.bl (decide (x = y))) μ) : eq2 (.str x) (.str y) μ Q := h
theorem x_eqB {x y : Bool} (h : Q (.bl (decide (x = y))) μ) : eq2 (.bl x) (.bl y) μ Q := h
theorem x_neI (h : Q (.bl (!decide (i = j))) μ) : ne2 (.int i) (.int j) μ Q := h
theorem x_neS {x y : Str} (h : Q (.bl (!decide (x = y))) μ) : ne2 (.str x) (.str y) μ Q := h
theorem x_neB {x y : Bool} (h : Q (.bl (!decide (x = y))) μ) : ne2 (.bl x) (.bl y) μ Q := h
theorem x_ixL {xs : List D} (e : atI xs i = some d) (h : Q d μ) : ix2 (.lst xs) (.int i) μ Q := .inl ⟨xs, i, d, .inl .f, rfl, e, h⟩
theorem x_ixR {xs : List D} (e : atI xs i = some d) (h : Q d μ) : ix2 (.rol xs) (.int i) μ Q := .inl ⟨xs, i, d, .inl .r, rfl, e, h⟩
theorem x_ixT {xs : List D} (e : atI xs i = some d) (h : Q d μ) : ix2 (.tup xs) (.int i) μ Q := .inl ⟨xs, i, d, .inr rfl, rfl, e, h⟩
theorem x_ixM {a : Addr} {xs : List D} (ha : μ a = some (.lst xs)) (e : atI xs i = some d) (h : Q d μ) : ix2 (.ref a) (.int i) μ Q := .inl ⟨xs, i, d, .inl (.m ha), rfl, e, h⟩
theorem x_ixS {z : Str} {c : Nat} (hl : z.length ≤ sizeLine) (e : atI z.cps.toList i = some c) (h : Q (.str ⟨#[c]⟩) μ) : ix2 (.str z) (.int i) μ Q := .inr (.inl ⟨z, i, c, rfl, rfl, hl, e, h⟩)
theorem x_ixD {kvs : List (Key × D)} {x : D} {kk : Key} (e1 : keyD x = some kk) (e : valD kvs kk = some d) (h : Q d μ) : ix2 (.dct kvs) x μ Q := .inr (.inr ⟨kvs, kk, d, .f, e1, e, h⟩)
theorem x_ixDM {a : Addr} {kvs : List (Key × D)} {x : D} {kk : Key} (ha : μ a = some (.dct kvs)) (e1 : keyD x = some kk) (e : valD kvs kk = some d) (h : Q d μ) : ix2 (.ref a) x μ Q := .inr (.inr ⟨kvs, kk, d, .m ha, e1, e, h⟩)
theorem x_setL {a : Addr} {xs : List D} {n : Nat} {QM : Mu → Prop} (ha : μ a = some (.lst xs)) (e1 : ixN xs.length i = some n) (h : QM (mup μ a (.lst (xs.set n d)))) : set2 (.ref a) (.int i) d μ QM := .inl ⟨a, xs, i, n, rfl, rfl, ha, e1, h⟩
theorem x_setD {a : Addr} {kvs : List (Key × D)} {x : D} {kk : Key} {QM : Mu → Prop} (ha : μ a = some (.dct kvs)) (e1 : keyD x = some kk) (hl : kvs.length < sizeLine) (h : QM (mup μ a (.dct (putKD kvs kk d)))) : set2 (.ref a) x d μ QM := .inr ⟨a, kvs, kk, rfl, e1, ha, hl, h⟩
theorem x_lenL {xs : List D} (h : Q (.int xs.length) μ) : len1 [.lst xs] μ Q := h
theorem x_lenR {xs : List D} (h : Q (.int xs.length) μ) : len1 [.rol xs] μ Q := h
theorem x_lenT {xs : List D} (h : Q (.int xs.length) μ) : len1 [.tup xs] μ Q := h
theorem x_lenD {xs : List (Key × D)} (h : Q (.int xs.length) μ) : len1 [.dct xs] μ Q := h
theorem x_lenS {z : Str} (hl : z.length ≤ sizeLine) (h : Q (.int z.length) μ) : len1 [.str z] μ Q := ⟨hl, h⟩
theorem x_lenM {a : Addr} {xs : List D} (ha : μ a = some (.lst xs)) (h : Q (.int xs.length) μ) : len1 [.ref a] μ Q := .inl ⟨xs, ha, h⟩
theorem x_int (h : Q (.int i) μ) : int1 [.int i] μ Q := h
theorem x_intB {b : Bool} (h : Q (.int (if b then 1 else 0)) μ) : int1 [.bl b] μ Q := h
theorem x_listL {xs : List D} (h : NewL xs μ Q) : list1 [.lst xs] μ Q := h
theorem x_listR {xs : List D} (h : NewL xs μ Q) : list1 [.rol xs] μ Q := h
theorem x_listT {xs : List D} (h : NewL xs μ Q) : list1 [.tup xs] μ Q := h
theorem x_listM {a : Addr} {xs : List D} (ha : μ a = some (.lst xs)) (h : NewL xs μ Q) : list1 [.ref a] μ Q := .inl ⟨xs, ha, h⟩
theorem x_listD {xs : List (Key × D)} (h : NewL (xs.map fun kv => keyV kv.1) μ Q) : list1 [.dct xs] μ Q := h
theorem x_listDM {a : Addr} {xs : List (Key × D)} (ha : μ a = some (.dct xs)) (h : NewL (xs.map fun kv => keyV kv.1) μ Q) : list1 [.ref a] μ Q := .inr ⟨xs, ha, h⟩
theorem x_tupleL {xs : List D} (h : Q (.tup xs) μ) : tuple1 [.lst xs] μ Q := h
theorem x_tupleT {xs : List D} (h : Q (.tup xs) μ) : tuple1 [.tup xs] μ Q := h
theorem x_tupleM {a : Addr} {xs : List D} (ha : μ a = some (.lst xs)) (h : Q (.tup xs) μ) : tuple1 [.ref a] μ Q := ⟨xs, ha, h⟩
theorem x_abs (h : Q (.int (if i < 0 then -i else i)) μ) : abs1 [.int i] μ Q := h
theorem x_max (h : Q (.int (if j > i then j else i)) μ) : max1 [.int i, .int j] μ Q := h
theorem x_min (h : Q (.int (if j < i then j else i)) μ) : min1 [.int i, .int j] μ Q := h
theorem x_isi {T t : Ty} {n : String} (e : n = T.nm) (e2 : tyD μ d = some t) (h : Q (.bl (isTy t T)) μ) : isi T [d, .ty n] μ Q := ⟨e, t, e2, h⟩
theorem x_append {a : Addr} {xs : List D} (ha : μ a = some (.lst xs)) (hl : xs.length < sizeLine) (h : Q .non (mup μ a (.lst (xs ++ [d])))) : append1 (.ref a) [d] μ Q := ⟨xs, ha, hl, h⟩
theorem x_pop {a : Addr} {xs : List D} (ha : μ a = some (.lst (xs ++ [d]))) (h : Q d (mup μ a (.lst xs))) : pop1 (.ref a) [] μ Q := ⟨xs ++ [d], d, ha, by simp, by rw [List.dropLast_concat]; exact h⟩
theorem x_tyM {a : Addr} {xs : List D} {A : Prop} (ha : μ a = some (.lst xs)) (h : A) : TyM "list" (.ref a) μ ∧ A := ⟨.inl ⟨rfl, xs, ha⟩, h⟩
theorem x_tyMD {a : Addr} {xs : List (Key × D)} {A : Prop} (ha : μ a = some (.dct xs)) (h : A) : TyM "dict" (.ref a) μ ∧ A := ⟨.inr ⟨rfl, xs, ha⟩, h⟩
theorem x_isB {b c : Bool} (h : Q (.bl (decide (b = c))) μ) : is2 false (.bl b) (.bl c) μ Q := by
  show Q (.bl (false ^^ decide (b = c))) μ
  rw [Bool.false_xor]; exact h
theorem x_isnB {b c : Bool} (h : Q (.bl (!decide (b = c))) μ) : is2 true (.bl b) (.bl c) μ Q := by
  show Q (.bl (true ^^ decide (b = c))) μ
  rw [Bool.true_xor]; exact h
theorem x_iL {t : TE2} {R : List D → (Mu → Prop) → Mu → Prop} (h : t δ μ fun x μ1 => iSeq' x μ1 R) : iL t δ μ R := h
theorem x_iLf {xs : List D} {R : List D → (Mu → Prop) → Mu → Prop} (h : R xs (fun _ => True) μ) : iSeq' (.lst xs) μ R := h
theorem x_iLr {xs : List D} {R : List D → (Mu → Prop) → Mu → Prop} (h : R xs (fun _ => True) μ) : iSeq' (.rol xs) μ R := h
theorem x_iT {t : TE2} {R : List D → (Mu → Prop) → Mu → Prop} (h : t δ μ fun x μ1 => ∃ xs, x = .tup xs ∧ R xs (fun _ => True) μ1) : iT t δ μ R := h
theorem x_iTf {xs : List D} {R : List D → Prop} (h : R xs) : ∃ ys, D.tup xs = .tup ys ∧ R ys := ⟨xs, rfl, h⟩
theorem x_iR1 {t : TA2} {R : List D → (Mu → Prop) → Mu → Prop} (h : t δ μ fun ds μ1 => ∃ j, ds = [.int j] ∧ rngOk j ∧ R (rngD 0 j.toNat) (fun _ => True) μ1) : iR1 t δ μ R := h
theorem x_iR2 {t : TA2} {R : List D → (Mu → Prop) → Mu → Prop} (h : t δ μ fun ds μ1 => ∃ i j, ds = [.int i, .int j] ∧ rngOk i ∧ rngOk j ∧ R (rngD i (j - i).toNat) (fun _ => True) μ1) : iR2 t δ μ R := h
/-- a loop by what holds between its turns -/
theorem loop_inv {g : TG2} {tb : TS2} {G : Mu → Prop} {D1 : Ends2} (P : List D → Sg → Mu → Prop) (hG : ∀ r δ μ, P r δ μ → G μ)
    (hs : ∀ x r δ μ, P (x :: r) δ μ → ∀ QN : Sg → Mu → Prop, (∀ δ' μ', P r δ' μ' → QN δ' μ') → g x δ μ fun δ' μ' => tb { nx := QN, rt := D1.rt, bk := D1.nx, ct := QN } δ' μ')
    (hd : ∀ δ μ, P [] δ μ → D1.nx δ μ) : ∀ (xs : List D) (δ : Sg) (μ : Mu), P xs δ μ → jLoop g tb G D1 xs δ μ
  | [], δ, μ, p => ⟨hG _ _ _ p, hd δ μ p⟩
  | x :: r, δ, μ, p => ⟨hG _ _ _ p, hs x r δ μ p _ fun δ' μ' p' => loop_inv P hG hs hd r δ' μ' p'⟩
/-- a comprehension by what holds between its turns -/
theorem lc_inv {g : TG2} {tt : TT2} {te : TE2} {δ0 : Sg} {G : Mu → Prop} {k : List D → Mu → Prop} (P : List D → List D → Mu → Prop) (hG : ∀ r acc μ, P r acc μ → G μ)
    (hs : ∀ x r acc μ, P (x :: r) acc μ → ∀ N : List D → Mu → Prop, (∀ acc' μ', P r acc' μ' → N acc' μ') → g x δ0 μ fun δ1 μ1 => tt δ1 μ1 fun b μ2 => if b = true then te δ1 μ2 fun y μ3 => acc.length < sizeLine ∧ N (acc ++ [y]) μ3 else N acc μ2)
    (hd : ∀ acc μ, P [] acc μ → k acc μ) : ∀ (xs acc : List D) (μ : Mu), P xs acc μ → jLcl g tt te δ0 G k xs acc μ
  | [], acc, μ, p => ⟨hG _ _ _ p, hd acc μ p⟩
  | x :: r, acc, μ, p => ⟨hG _ _ _ p, hs x r acc μ p (fun acc' μ' => jLcl g tt te δ0 G k r acc' μ') fun acc' μ' p' => lc_inv P hG hs hd r acc' μ' p'⟩
/-- whose turns change nothing: f tells each item's element, if there is one -/
theorem lc_fm {g : TG2} {tt : TT2} {te : TE2} {δ0 : Sg} {k : List D → Mu → Prop} {μ : Mu} (f : D → Option D) (xs : List D) (hl : xs.length < sizeLine)
    (hs : ∀ x ∈ xs, ∀ (Y : D → Mu → Prop) (Nn : Mu → Prop), (∀ y, f x = some y → Y y μ) → (f x = none → Nn μ) → g x δ0 μ fun δ1 μ1 => tt δ1 μ1 fun b μ2 => if b = true then te δ1 μ2 Y else Nn μ2)
    (hd : k (xs.filterMap f) μ) : jLcl g tt te δ0 (fun _ => True) k xs [] μ := by
  refine lc_inv (fun r acc μ' => μ' = μ ∧ acc ++ r.filterMap f = xs.filterMap f ∧ acc.length + r.length ≤ xs.length ∧ ∀ x ∈ r, x ∈ xs) (fun _ _ _ _ => trivial) ?_ ?_ xs [] μ ⟨rfl, rfl, by simp, fun _ h => h⟩
  · rintro x r acc μ' ⟨rfl, he, hz, hm⟩ N hN
    refine hs x (hm x (List.mem_cons_self ..)) _ _ (fun y hy => ⟨?_, hN _ _ ⟨rfl, ?_, ?_, ?_⟩⟩) (fun hn => hN _ _ ⟨rfl, ?_, ?_, ?_⟩)
    · simp only [List.length_cons] at hz; omega
    · rw [List.filterMap_cons, hy] at he
      rw [← he]
      simp
    · simp only [List.length_cons, List.length_append, List.length_nil] at hz ⊢; omega
    · exact fun z hz' => hm z (List.mem_cons_of_mem _ hz')
    · rw [List.filterMap_cons, hn] at he
      exact he
    · simp only [List.length_cons] at hz ⊢; omega
    · exact fun z hz' => hm z (List.mem_cons_of_mem _ hz')
  · rintro acc μ' ⟨rfl, he, _, _⟩
    have e2 : acc = xs.filterMap f := by simpa using he
    rw [e2]
    exact hd
/-- .. one element an item -/
theorem lc_map {g : TG2} {te : TE2} {δ0 : Sg} {k : List D → Mu → Prop} {μ : Mu} (f : D → D) (xs : List D) (hl : xs.length < sizeLine)
    (hs : ∀ x ∈ xs, ∀ Y : D → Mu → Prop, Y (f x) μ → g x δ0 μ fun δ1 μ1 => te δ1 μ1 Y) (hd : k (xs.map f) μ) : jLcl g jYes te δ0 (fun _ => True) k xs [] μ := by
  refine lc_inv (fun r acc μ' => μ' = μ ∧ acc ++ r.map f = xs.map f ∧ acc.length + r.length ≤ xs.length ∧ ∀ x ∈ r, x ∈ xs) (fun _ _ _ _ => trivial) ?_ ?_ xs [] μ ⟨rfl, rfl, by simp, fun _ h => h⟩
  · rintro x r acc μ' ⟨rfl, he, hz, hm⟩ N hN
    have h := hs x (hm x (List.mem_cons_self ..)) (fun y μ3 => acc.length < sizeLine ∧ N (acc ++ [y]) μ3) ⟨by simp only [List.length_cons] at hz; omega, hN _ _ ⟨rfl, by rw [← he]; simp, by simp only [List.length_cons, List.length_append, List.length_nil] at hz ⊢; omega, fun z hz' => hm z (List.mem_cons_of_mem _ hz')⟩⟩
    exact h
  · rintro acc μ' ⟨rfl, he, _, _⟩
    have e2 : acc = xs.map f := by simpa using he
    rw [e2]
    exact hd
end
end J

namespace J
open PySem PySem.Spec PyProof.Rows L2
/-! ### the head's hook, with a check of one's own; the law's start -/
abbrev AlJ : Type := He.AlD × Bool
def obsJ (n : Nat) (fa : List He.Fa) (fn : List He.DefD) (ex : PySem.W.Frag → Bool) (g : Addr → Option Obj) : AlJ := (He.obsDG n fa fn g, ex (He.frG g (He.asD g n)))
def hookJ (n : Nat) (fa : List He.Fa) (fn : List He.DefD) (ex : PySem.W.Frag → Bool) : PySem.W.Hook where
  α := AlJ
  obs := fun s => obsJ n fa fn ex s.heap.get?
  val := fun _ => (He.valD fn, true)
  says := fun _ h => ∃ K : PySem.W.Frag, K.In h ∧ He.SaysD fa fn K ∧ ex K = true
  of := fun _ _ e => ⟨_, He.frG_in, congrArg (fun z : AlJ => z.1) e, congrArg (fun z : AlJ => z.2) e⟩
  keeps := fun _ _ _ ⟨K, hK, c⟩ k => ⟨K, PySem.W.Frag.In.keeps hK k, c⟩
theorem obsJ_eq {n : Nat} {fa : List He.Fa} {fn : List He.DefD} {ex : PySem.W.Frag → Bool} {g : Addr → Option Obj} {s : Shared} (h : ∀ a, g a = s.heap.get? a) : obsJ n fa fn ex g = (hookJ n fa fn ex).obs s := by
  have e : g = s.heap.get? := funext h
  rw [e] <;> rfl
theorem never {P : Program} {w : World} {K : PySem.W.Frag} {mg : Str → Option Value} {base : Heap} {CX : CXT} {k : Nat} {f : Addr} {fd : FuncData} {ps : List Str} : FnOk P w K mg base CX k f fd ps (lowSp K fun _ _ _ _ => False) :=
  ⟨fun _ _ _ _ ⟨_, _, _, _, _, _, _, q, _⟩ => q.elim, fun _ _ _ _ _ _ _ _ _ _ _ _ _ ⟨_, _, _, _, _, _, _, q, _⟩ => q.elim⟩
def Start (sp : Sp2) : Prop := ∀ (ns : List Int) (μ : Mu) (Q : QE), ns.length ≤ 63 → (∀ μ', Q (.bl true) μ') → sp [.rol (ns.map D.int)] μ Q noEx
theorem ints_rep {K : PySem.W.Frag} {F : Hp} : ∀ ns : List Int, Reps K F (ns.map V.int) (ns.map D.int)
  | [] => .nil
  | _ :: r => .cons .int (ints_rep r)
theorem low_start {K : PySem.W.Frag} {sp : Sp2} (st : Start sp) (H : Hp) (a : Addr) (ns : List Int) (hl : ns.length ≤ 63) (hS : SqL K H a (ns.map V.int)) : lowSp K sp [.ref a] H (fun v _ => v = .bl true) fun _ _ _ => False := by
  refine ⟨H, fun _ => none, [.rol (ns.map D.int)], fun d _ => d = .bl true, noEx, ⟨Same.refl _, fun _ _ h => nomatch h⟩, .cons (.rol hS (ints_rep ns)) .nil, st ns _ _ hl fun _ => rfl, ?_, ZE.none⟩
  intro d μ' F' H' v hd _ _ r
  subst hd
  cases r
  rfl
theorem glo_tup {K : PySem.W.Frag} {h : Heap} {mg : Str → Option Value} {x : Str} {vs : List He.Dv} {ds : List D} (X : K.In h) (G : h.Ns mainGlobals mg) (c : (He.Fa.glo x).ok K = true) (t : He.tupB K x vs = true) (r : ∀ F, Reps K F (vs.map (He.Dv.v K)) ds) :
    ∃ (v : V) (u : Value), mg x = some u ∧ RelV v u ∧ ∀ F, Rep K F v (.tup ds) := ⟨.ref (He.ga K x), .ref (He.ga K x), He.glo_ok X G c, by constructor, fun F => .tup (He.tupB_ok t F) (r F)⟩
theorem glo_int {K : PySem.W.Frag} {h : Heap} {mg : Str → Option Value} {x : Str} {i : Int} (X : K.In h) (G : h.Ns mainGlobals mg) (c : (He.Fa.int x i).ok K = true) : ∃ (v : V) (u : Value), mg x = some u ∧ RelV v u ∧ ∀ F, Rep K F v (.int i) := by
  obtain ⟨t, e⟩ := He.int_ok X G c
  exact ⟨.int i, _, e, ⟨t, rfl⟩, fun _ => .int⟩
theorem glo_str {K : PySem.W.Frag} {h : Heap} {mg : Str → Option Value} {x z : Str} (X : K.In h) (G : h.Ns mainGlobals mg) (c : (He.Fa.str x z).ok K = true) : ∃ (v : V) (u : Value), mg x = some u ∧ RelV v u ∧ ∀ F, Rep K F v (.str z) := by
  obtain ⟨t, e⟩ := He.str_ok X G c
  exact ⟨.str z, _, e, ⟨t, rfl⟩, fun _ => .str⟩
end J

namespace J
open PySem PySem.Spec PyProof.Rows L2
section
variable {D0 : Ends2} {δ δ' : Sg} {μ : Mu} {Q : QE} {d e x y : D} {i j : Int} {k : Nat} {kvs : List (Key × D)} {kk : Key}
theorem x_ixDA (ha : DctAt μ x kvs) (e1 : keyD y = some kk) (e : valD kvs kk = some d) (h : Q d μ) : ix2 x y μ Q := .inr (.inr ⟨kvs, kk, d, ha, e1, e, h⟩)
theorem x_listDA (ha : DctAt μ x kvs) (h : NewL (kvs.map fun kv => keyV kv.1) μ Q) : list1 [x] μ Q := by
  rcases ha with rfl | ⟨a, rfl, ha⟩
  · exact h
  · exact .inr ⟨_, ha, h⟩
theorem x_dictDA (ha : DctAt μ x kvs) (h : NewD kvs μ Q) : dict1 [x] μ Q := ⟨kvs, ha, h⟩
theorem x_lenDA (ha : DctAt μ x kvs) (h : Q (.int kvs.length) μ) : len1 [x] μ Q := by
  rcases ha with rfl | ⟨a, rfl, ha⟩
  · exact h
  · exact .inr ⟨_, ha, h⟩
theorem x_inL {xs : List D} (h1 : x.fl = true) (h2 : xs.all D.fl = true) (h : Q (.bl (inF x xs)) μ) : in2 false x (.lst xs) μ Q := .inl ⟨xs, .inl .f, h1, h2, by rw [Bool.false_xor]; exact h⟩
theorem x_ninL {xs : List D} (h1 : x.fl = true) (h2 : xs.all D.fl = true) (h : Q (.bl (!inF x xs)) μ) : in2 true x (.lst xs) μ Q := .inl ⟨xs, .inl .f, h1, h2, by rw [Bool.true_xor]; exact h⟩
theorem fl_bls (bs : List Bool) : (bs.map D.bl).all D.fl = true := by simp [List.all_eq_true, D.fl]
theorem inF_bls (bs : List Bool) : inF (.bl false) (bs.map D.bl) = !bs.all id := by
  induction bs with
  | nil => rfl
  | cons b r ih =>
    have e : inF (.bl false) ((b :: r).map D.bl) = ((b == false) || inF (.bl false) (r.map D.bl)) := rfl
    rw [e, ih]
    cases b <;> simp
theorem x_inB {bs : List Bool} (h : Q (.bl (!bs.all id)) μ) : in2 false (.bl false) (.lst (bs.map D.bl)) μ Q := x_inL rfl (fl_bls bs) (by rw [inF_bls]; exact h)
theorem x_ninB {bs : List Bool} (h : Q (.bl (bs.all id)) μ) : in2 true (.bl false) (.lst (bs.map D.bl)) μ Q := x_ninL rfl (fl_bls bs) (by rw [inF_bls, Bool.not_not]; exact h)
theorem x_maxL {ns : List Int} (h0 : 0 < ns.length) (h : ∀ m, m ∈ ns → (∀ y, y ∈ ns → y ≤ m) → Q (.int m) μ) : max1 [.lst (ns.map D.int)] μ Q := .inl ⟨ns, .f, h0, h⟩
theorem x_minL {ns : List Int} (h0 : 0 < ns.length) (h : ∀ m, m ∈ ns → (∀ y, y ∈ ns → m ≤ y) → Q (.int m) μ) : min1 [.lst (ns.map D.int)] μ Q := .inl ⟨ns, .f, h0, h⟩
/-! ### sorted lists of words are told by their items -/
def leS (a b : Str) : Prop := a.cps.toList ≤ b.cps.toList
theorem leS_of {a b : Str} (h : ltCps b.cps.toList a.cps.toList = false) : leS a b := by
  rw [ltCps_eq, decide_eq_false_iff_not] at h
  exact List.not_lt.mp h
theorem leS_anti {a b : Str} (h : leS a b) (h2 : leS b a) : a = b := by
  have e := List.le_antisymm h h2
  obtain ⟨⟨a⟩⟩ := a
  obtain ⟨⟨b⟩⟩ := b
  simp only at e
  rw [e]
theorem leS_trans {a b c : Str} (h : leS a b) (h2 : leS b c) : leS a c := List.le_trans h h2
theorem risingS_pw : ∀ (l : List Str) (p : Str), risingS p l = true → (p :: l).Pairwise leS
  | [], p, _ => by simp
  | x :: r, p, h => by
    simp only [risingS, Bool.and_eq_true, Bool.not_eq_true'] at h
    have ih := risingS_pw r x h.2
    refine List.pairwise_cons.mpr ⟨fun y hy => ?_, ih⟩
    rcases List.mem_cons.mp hy with rfl | hm
    · exact leS_of h.1
    · exact leS_trans (leS_of h.1) ((List.pairwise_cons.mp ih).1 y hm)
theorem sortedS_pw : ∀ l : List Str, sortedS l = true → l.Pairwise leS
  | [], _ => .nil
  | x :: r, h => risingS_pw r x h
theorem sorted_one {xs ys : List Str} (hp : ys.Perm xs) (h : sortedS ys = true) (h2 : sortedS xs = true) : ys = xs :=
  hp.eq_of_pairwise (fun _ _ _ _ a b => leS_anti a b) (sortedS_pw ys h) (sortedS_pw xs h2)
theorem x_sortedS {ss xs : List Str} (hl : ss.length < 64) (hp : xs.Perm ss) (hs : sortedS xs = true) (h : NewL (xs.map D.str) μ Q) : sorted1 [.lst (ss.map D.str)] μ Q :=
  .inr <| .inl ⟨ss, .inl .f, fun ys h1 h2 => by rw [sorted_one (h1.trans hp.symm) h2 hs]; exact h⟩
theorem sortZ_one {xs ys : List Int} (hp : ys.Perm xs) (h : ys.Pairwise (· ≤ ·)) (h2 : xs.Pairwise (· ≤ ·)) : ys = xs :=
  hp.eq_of_pairwise (fun _ _ _ _ a b => Int.le_antisymm a b) h h2
theorem x_sortedZ {ss xs : List Int} (hp : xs.Perm ss) (hs : xs.Pairwise (· ≤ ·)) (h : NewL (xs.map D.int) μ Q) : sorted1 [.lst (ss.map D.int)] μ Q :=
  .inl ⟨ss, .f, fun ys h1 h2 => by rw [sortZ_one (h1.trans hp.symm) h2 hs]; exact h⟩
/-! ### tables by their keys -/
theorem valD_put_same {v : D} : valD (putKD kvs kk v) kk = some v := by
  unfold putKD
  induction kvs with
  | nil => simp [valD]
  | cons p r ih =>
    by_cases h : p.1 = kk
    · simp [List.any_cons, h, valD]
    · by_cases h2 : (r.any fun kv => decide (kv.1 = kk)) = true
      · rw [if_pos (by simp [List.any_cons, h, h2])]
        rw [if_pos h2] at ih
        rw [List.map_cons, if_neg h, valD_neg h]
        exact ih
      · rw [if_neg (by simp [List.any_cons, h] at h2 ⊢; exact h2)]
        rw [if_neg h2] at ih
        rw [List.cons_append, valD_neg h]
        exact ih
theorem valD_put_ne {v : D} {k2 : Key} (hne : k2 ≠ kk) : valD (putKD kvs kk v) k2 = valD kvs k2 := by
  unfold putKD
  induction kvs with
  | nil => simp [valD, Ne.symm hne]
  | cons p r ih =>
    by_cases h : p.1 = kk
    · rw [if_pos (by simp [List.any_cons, h])]
      rw [List.map_cons, if_pos h, valD_neg (by intro z; exact hne (z.symm.trans h)), valD_neg (by intro z; exact hne (z.symm.trans h))]
      by_cases h2 : (r.any fun kv => decide (kv.1 = kk)) = true
      · rw [if_pos h2] at ih
        exact ih
      · have e : (r.map fun kv => if kv.1 = kk then (kv.1, v) else kv) = r := by
          rw [List.map_congr_left (g := id) (fun q hq => ?_), List.map_id]
          rw [if_neg (fun z => h2 (List.any_eq_true.mpr ⟨q, hq, by simp [z]⟩))]
          rfl
        rw [e]
    · by_cases h2 : (r.any fun kv => decide (kv.1 = kk)) = true
      · rw [if_pos (by simp [List.any_cons, h, h2])]
        rw [if_pos h2] at ih
        rw [List.map_cons, if_neg h]
        by_cases h3 : p.1 = k2
        · rw [valD_pos h3, valD_pos h3]
        · rw [valD_neg h3, valD_neg h3]; exact ih
      · rw [if_neg (by simp [List.any_cons, h] at h2 ⊢; exact h2)]
        rw [if_neg h2] at ih
        rw [List.cons_append]
        by_cases h3 : p.1 = k2
        · rw [valD_pos h3, valD_pos h3]
        · rw [valD_neg h3, valD_neg h3]; exact ih
theorem any_valD : (kvs.any fun kv => decide (kv.1 = kk)) = (valD kvs kk).isSome := by
  induction kvs with
  | nil => rfl
  | cons p r ih =>
    by_cases h : p.1 = kk
    · simp [List.any_cons, h, valD]
    · rw [List.any_cons, valD_neg h, ← ih]; simp [h]
theorem keys_put_old {v : D} (h : (valD kvs kk).isSome = true) : (putKD kvs kk v).map (·.1) = kvs.map (·.1) := by
  unfold putKD
  rw [if_pos (by rw [any_valD]; exact h), List.map_map]
  refine List.map_congr_left fun p _ => ?_
  show (if p.1 = kk then (p.1, v) else p).1 = p.1
  split <;> rfl
theorem keys_put_new {v : D} (h : valD kvs kk = none) : putKD kvs kk v = kvs ++ [(kk, v)] := by
  unfold putKD
  rw [if_neg (by rw [any_valD, h]; simp)]
theorem mup_comm {μ : Mu} {a b : Addr} {o u : MO} (h : a ≠ b) : mup (mup μ a o) b u = mup (mup μ b u) a o := by
  funext c; unfold mup
  by_cases e : c = a
  · subst e; rw [if_neg h, if_pos rfl, if_pos rfl]
  · by_cases e2 : c = b
    · subst e2; rw [if_pos rfl, if_neg e, if_pos rfl]
    · rw [if_neg e2, if_neg e, if_neg e, if_neg e2]
end
end J

namespace J
open PySem PySem.Spec PyProof.Rows L2
theorem rngD_eq (n : Nat) : rngD 0 n = (List.range' 0 n).map fun i : Nat => D.int (i : Nat) := by
  unfold rngD
  rw [List.range_eq_range']
  refine List.map_congr_left fun i _ => ?_
  rw [Int.zero_add]
/-- a loop over range(n) -/
theorem loop_rng {g : TG2} {tb : TS2} {G : Mu → Prop} {D1 : Ends2} {n : Nat} (P : Nat → Sg → Mu → Prop) (hG : ∀ k δ μ, P k δ μ → G μ)
    (hs : ∀ k δ μ, k < n → P k δ μ → ∀ QN : Sg → Mu → Prop, (∀ δ' μ', P (k + 1) δ' μ' → QN δ' μ') → g (.int (k : Nat)) δ μ fun δ' μ' => tb { nx := QN, rt := D1.rt, bk := D1.nx, ct := QN } δ' μ')
    (hd : ∀ δ μ, P n δ μ → D1.nx δ μ) (δ : Sg) (μ : Mu) (p : P 0 δ μ) : jLoop g tb G D1 (rngD 0 n) δ μ := by
  rw [rngD_eq]
  refine loop_inv (fun r δ μ => ∃ k m, k + m = n ∧ r = (List.range' k m).map (fun i : Nat => D.int (i : Nat)) ∧ P k δ μ) (fun r δ μ ⟨k, m, _, _, h⟩ => hG k δ μ h) ?_ ?_ _ _ _ ⟨0, n, by omega, rfl, p⟩
  · rintro x r δ μ ⟨k, m, hk, hr, h⟩ QN hN
    cases m with
    | zero => cases hr
    | succ m =>
      rw [List.range'_succ, List.map_cons] at hr
      injection hr with h1 h2
      subst h1
      exact hs k δ μ (by omega) h QN fun δ' μ' p' => hN _ _ ⟨k + 1, m, by omega, h2, p'⟩
  · rintro δ μ ⟨k, m, hk, hr, h⟩
    cases m with
    | zero =>
      have e : k = n := by omega
      subst e
      exact hd _ _ h
    | succ m => rw [List.range'_succ, List.map_cons] at hr; cases hr
end J
namespace J
open PySem PySem.Spec PyProof.Rows L2
theorem x_seqo {n : Sg → Mu → Prop} {r : QE} {b c : Sg → Mu → Prop} {δ : Sg} {μ : Mu} {t u : TS2} (h : ∀ N : Sg → Mu → Prop, N = u { nx := n, rt := r, bk := b, ct := c } → t { nx := N, rt := r, bk := b, ct := c } δ μ) : jSeq t u { nx := n, rt := r, bk := b, ct := c } δ μ := h _ rfl
theorem x_nx {N P : Sg → Mu → Prop} {δ : Sg} {μ : Mu} (e : N = P) (h : P δ μ) : N δ μ := by rw [e]; exact h
end J
namespace J
open PySem PySem.Spec PyProof.Rows L2
/-! ### guards: the shape of a goal, asked before a rule with side conditions is tried -/
section
variable {δ : Sg} {μ : Mu} {Q : QE} {QS : Sg → Mu → Prop} {QM : Mu → Prop} {d e : D} {i j : Int} {k n : Nat} {a : Addr} {xs : List D} {A : Prop}
theorem g_name (h : kName k d δ μ QS) : kName k d δ μ QS := h
theorem g_var (h : jVar k δ μ Q) : jVar k δ μ Q := h
theorem g_aug {t : TE2} {r : O2} {D0 : Ends2} (h : jAug k t r D0 δ μ) : jAug k t r D0 δ μ := h
theorem g_mul (h : mul2 (.int i) (.int j) μ Q) : mul2 (.int i) (.int j) μ Q := h
theorem g_mod (h : mod2 (.int i) (.int j) μ Q) : mod2 (.int i) (.int j) μ Q := h
theorem g_fdiv (h : fdiv2 (.int i) (.int j) μ Q) : fdiv2 (.int i) (.int j) μ Q := h
theorem g_shr (h : shr2 (.int i) (.int j) μ Q) : shr2 (.int i) (.int j) μ Q := h
theorem g_pow (h : pow2 (.int i) (.int j) μ Q) : pow2 (.int i) (.int j) μ Q := h
theorem g_ixL (h : ix2 (.lst xs) d μ Q) : ix2 (.lst xs) d μ Q := h
theorem g_ixT (h : ix2 (.tup xs) d μ Q) : ix2 (.tup xs) d μ Q := h
theorem g_ixM (h : ix2 (.ref a) d μ Q) : ix2 (.ref a) d μ Q := h
theorem g_setL (h : set2 (.ref a) d e μ QM) : set2 (.ref a) d e μ QM := h
theorem g_lenM (h : len1 [.ref a] μ Q) : len1 [.ref a] μ Q := h
theorem g_listM (h : list1 [.ref a] μ Q) : list1 [.ref a] μ Q := h
theorem g_tupleM (h : tuple1 [.ref a] μ Q) : tuple1 [.ref a] μ Q := h
theorem g_isi {T : Ty} (h : isi T [d, e] μ Q) : isi T [d, e] μ Q := h
theorem g_tyM (h : TyM "list" (.ref a) μ ∧ A) : TyM "list" (.ref a) μ ∧ A := h
theorem g_tyMD (h : TyM "dict" (.ref a) μ ∧ A) : TyM "dict" (.ref a) μ ∧ A := h
theorem g_le (h : k ≤ n ∧ A) : k ≤ n ∧ A := h
end
end J

namespace J
open PySem PySem.Spec PyProof.Rows L2
section
variable {δ : Sg} {μ : Mu} {Q : QE} {QS : Sg → Mu → Prop} {d : D} {n : Nat} {r xs : List D} {t : TG2} {u : TGs2}
theorem x_ktup (hl : xs.length = n) (h : u xs δ μ QS) : kTup n u (.tup xs) δ μ QS := ⟨xs, rfl, hl, h⟩
theorem x_kcons (h : t d δ μ fun δ' μ' => u r δ' μ' QS) : kCons t u (d :: r) δ μ QS := ⟨d, r, rfl, h⟩
theorem x_knil (h : QS δ μ) : kNil [] δ μ QS := ⟨rfl, h⟩
theorem g_ktup (h : kTup n u (.tup xs) δ μ QS) : kTup n u (.tup xs) δ μ QS := h
end
/-! ### list(range(..)) -/
def rg1 : O1 := fun x μ Q => ∃ n : Int, x = .int n ∧ RgOk 0 n ∧ NewL (rngD 0 n.toNat) μ Q
def rg2 : O2 := fun x y μ Q => ∃ a b : Int, x = .int a ∧ y = .int b ∧ RgOk a b ∧ NewL (rngD a (b - a).toNat) μ Q
theorem rg_reps {K : PySem.W.Frag} {F : Hp} {a : Int} : ∀ l : List Nat, Reps K F (l.map fun i => V.int (a + (i : Nat))) (l.map fun i => D.int (a + (i : Nat)))
  | [] => .nil
  | _ :: r => .cons .int (rg_reps r)
section
variable {X : Cx} {Z : Zw}
theorem jlistRg1 {e : Expr} {te : TE2} {p p2 pos pos2 : Pos} (hc : X.calm = true) (hg : Gl X "list") (hm : X.mg "list" = none) (hg2 : Gl X "range") (hm2 : X.mg "range" = none) (he : E2 X Z e te)
    (hs : starEach [e] X.env = (false, eval e X.env) :: starEach [] X.env := by rfl)
    (hs2 : starEach [.Call (.Name "range" p2) [e] [] pos2] X.env = (false, eval (.Call (.Name "range" p2) [e] [] pos2) X.env) :: starEach [] X.env := by rfl) :
    E2 X Z (.Call (.Name "list" p) [.Call (.Name "range" p2) [e] [] pos2] [] pos) (jUn rg1 te) := by
  refine pe_imp (pe_listRg hc hg hm (prg_1 hg2 hm2 he hs) hs2) ?_
  rintro σ H Q ⟨F, δ, μ, Q0, m, q, k⟩
  refine ⟨F, δ, μ, _, m, q, ?_⟩
  rintro x μ1 F1 H1 v ⟨n, rfl, ok, nl⟩ g1 w1 r1
  cases r1
  have e : n - 0 = n := Int.sub_zero n
  exact ⟨n, rfl, ok, fun q hq => newL_ok w1 hq (by unfold rgV rngD; rw [e]; exact rg_reps _) nl (tr k g1)⟩
theorem jlistRg2 {e f : Expr} {te tf : TE2} {p p2 pos pos2 : Pos} (hc : X.calm = true) (hg : Gl X "list") (hm : X.mg "list" = none) (hg2 : Gl X "range") (hm2 : X.mg "range" = none) (he : E2 X Z e te) (hf : E2 X Z f tf)
    (hs : starEach [e, f] X.env = (false, eval e X.env) :: starEach [f] X.env := by rfl) (hsb : starEach [f] X.env = (false, eval f X.env) :: starEach [] X.env := by rfl) (hp : (backTo pos2 (starEach [f] X.env)).any (·.1) = false := by rfl)
    (hs2 : starEach [.Call (.Name "range" p2) [e, f] [] pos2] X.env = (false, eval (.Call (.Name "range" p2) [e, f] [] pos2) X.env) :: starEach [] X.env := by rfl) :
    E2 X Z (.Call (.Name "list" p) [.Call (.Name "range" p2) [e, f] [] pos2] [] pos) (jOp rg2 te tf) := by
  refine pe_imp (pe_listRg hc hg hm (prg_2 hg2 hm2 he hf hs hsb hp) hs2) ?_
  rintro σ H Q ⟨F, δ, μ, Q0, m, q, k⟩
  refine ⟨F, δ, μ, _, m, q, ?_⟩
  rintro x μ1 F1 H1 v q1 g1 w1 r1
  refine ⟨F1, δ, μ1, _, m.step g1 w1, q1, ?_⟩
  rintro y μ2 F2 H2 u ⟨a, b, rfl, rfl, ok, nl⟩ g2 w2 r2
  cases r1; cases r2
  exact ⟨a, b, rfl, rfl, ok, fun q hq => newL_ok w2 hq (by unfold rgV rngD; exact rg_reps _) nl (tr k (g1.trans g2))⟩
end
end J

namespace J
open PySem PySem.Spec PyProof.Rows L2
section
variable {X : Cx}
def reverse1 : OM
  | .ref a, [], μ, Q => ∃ xs, μ a = some (.lst xs) ∧ Q .non (mup μ a (.lst xs.reverse))
  | _, _, _, _ => False
theorem mreverse : MtR X "list.reverse" (lowOM X.K reverse1) := by
  rintro pins s σ H x xs v us Q I rx r ⟨F, μ, d, ds, Q0, w, r1, rs, q, k⟩
  unfold reverse1 at q
  split at q <;> first | exact False.elim q | skip
  cases r1
  cases rs
  obtain ⟨zs, h, q⟩ := q
  obtain ⟨vs, h1, r2⟩ := mlst_at w h
  obtain ⟨w2, g2⟩ := w.write h (RepM.lst (Reps.reverse r2))
  exact mt_reverse pins s σ H _ _ v us Q I rx r ⟨_, vs, rfl, rfl, h1, k _ _ _ _ _ q g2 w2 .non⟩
end
theorem x_reverse {a : Addr} {xs : List D} {μ : Mu} {Q : QE} (ha : μ a = some (.lst xs)) (h : Q .non (mup μ a (.lst xs.reverse))) : reverse1 (.ref a) [] μ Q := ⟨xs, ha, h⟩
end J

/-! J15: an own error class whose __init__ says super().__init__(..), KeptError's kin. -/
namespace J
open PySem PySem.Spec PyProof.Rows L2 NdefX ClX

/-- what stands of such an __init__ behind the top: its function at f (a closure of one cell, that holds its class D), the __init__ above it at f2 -/
structure SupD (P : Program) (K : PySem.W.Frag) (F : NF) (fd : FuncData) (f D f2 : Addr) : Prop where
  fn : ∃ (oc : Value) (od : Option Addr) (osl : Array (Option Value)) (doc pm ct : Value), fd = F.fd doc pm ct ∧ K.lookup f = some ⟨oc, od, .func fd, osl⟩
  code : PySem.W.codeIn K (.ref F.c) F.qual = true
  file : ∃ (oc : Value) (od : Option Addr) (osl : Array (Option Value)) (vs : Array Value) (file : Str) (tf : Tok), K.lookup F.c = some ⟨oc, od, .fields vs, osl⟩ ∧ vs[2]? = some (.str file tf) ∧ ((P.main.file : Str) == file) = true
  cell : ∃ (cc : Addr) (oc : Value) (od : Option Addr) (osl : Array (Option Value)), F.cl = [(("__class__" : Str), cc)] ∧ K.lookup cc = some ⟨oc, od, .cell (some (.ref D)), osl⟩
  cls : (PySem.W.clsIn K D).isSome = true
  sup : PySem.W.ks_superIn K D D "__init__" = some (some (.ref f2))
  fn2 : PySem.W.fnIn K f2 = true
  ty2 : PySem.W.typeIn K (.ref f2) = some (.type "function")
  sub : PySem.W.mroIn K D (.ref D) = some true
  opq : PySem.W.nsIn K cStatics "thirdparty.any" = some none

theorem boot_super : bootBuiltins "super" = some (.type "super") := by decide +kernel
theorem excEnv {D : Addr} {h : Heap} {K : PySem.W.Frag} (X : K.In h) (hc : (PySem.W.clsIn K D).isSome = true) : ∃ cd oD, PySem.W.clsIn K D = some cd ∧ h.get? D = some oD ∧ oD.data = .cls cd := by
  obtain ⟨cd, hcd⟩ := Option.isSome_iff_exists.mp hc
  have hcd' := hcd
  unfold PySem.W.clsIn at hcd
  split at hcd
  · rename_i c d cd' sl ho
    cases hcd
    exact ⟨_, _, hcd', X _ _ ho, rfl⟩
  · cases hcd

section
variable {P : Program} {w : World} {K : PySem.W.Frag} {mg : Str → Option Value} {base : Heap} {k : Nat} {f D f2 : Addr} {F : NF} {fd fd2 : FuncData} {N ps ps2 : List Str} {sp sp2 : Sp} {ar : Arg} {e : Expr} {es : List Expr} {p0 p1 p2 p3 p4 : Pos} {rest : List Stmt}
/-- THE RULE: an __init__ whose first statement is super().__init__(e, ..) -/
theorem fn_super (S : NScope N ps ["__class__"] F.scope) (T : SupD P K F fd f D f2) (htop : (P.main.scope.names.lookup ("super" : Str)).isSome = false) (hsg : mg "super" = none) (hsk : F.scope.names.lookup ("super" : Str) = some .globalImplicit)
    (hp : (F.params.posonlyargs ++ F.params.args).head? = some ar) (har : ps[0]? = some ar.arg) (F2 : FnOk P w K mg base CX0 k f2 fd2 ps2 sp2) (b2 : Binds K fd2 ps2 [])
    (hb : F.body = .Expr (.Call (.Attribute (.Call (.Name "super" p0) [] [] p1) "__init__" p2) (e :: es) [] p3) p4 :: rest)
    {pl : Env → Sem Bool} (ht : ∀ env, eval (.Call (.Attribute (.Call (.Name "super" p0) [] [] p1) "__init__" p2) (e :: es) [] p3) env = (do
      let ov ← attributeBase (.Call (.Name "super" p0) [] [] p1) "__init__" env (eval (.Call (.Name "super" p0) [] [] p1) env)
      standAt p2.atName
      let (f, first) ← holding [ov] (getMethod ov "__init__" (pl env))
      callWith p3 f first (backTo p3 (starEach (e :: es) env)) []))
    (hsw : ∀ env, swapsWith (.Call (.Attribute (.Call (.Name "super" p0) [] [] p1) "__init__" p2) (e :: es) [] p3) none p4.line env = pure false)
    (he : ∀ env, starEach (e :: es) env = (false, eval e env) :: starEach es env) (hpl : ∀ env, (backTo p3 (starEach es env)).any (·.1) = false)
    (len : ∀ vs H Q E, sp vs H Q E → vs.length = ps.length)
    (hbody : ∀ (A : Around) (outer : List Env) (s : Shared) (H : Hp) (vs : List V) (Q : VK) (E : XK), Room k (A.deeper (envF F f s.heap.objs.size)) → sp vs H Q E → ∃ a vs' ta t, vs = .ref a :: vs' ∧ H a = some (exo a D none) ∧
      PA (ncx CX0 P w K mg base N F f A outer s H E) (e :: es) ta ∧ PSs (ncx CX0 P w K mg base N F f A outer s H E) rest t ∧
      ta (startF N vs [some (.ref D)]) H (fun ws H1 => sp2 (.ref a :: ws) H1 (fun v H2 => t { nx := fun _ H' => Q .non H', rt := Q } (startF N vs [some (.ref D)]) H2) (fun _ _ _ => False))) :
    FnOk P w K mg base CX0 (k + 1) f fd ps sp := by
  refine ⟨len, fun A outer s H args us vs Q E hr e0 hb0 r hsp => ?_⟩
  have hl := len _ _ _ _ hsp
  have KX : K.In s.heap := e0.mod.kin.keeps fun b o e => (e0.bs b o e).1
  have lim : s.heap.NoLimit := e0.mod.nolimit.keeps fun b o e => (e0.bs b o e).1
  obtain ⟨oc, od, osl, doc, pm, ct, efd, lk⟩ := T.fn
  subst efd
  obtain ⟨cc, occ, odc, oslc, ecl, lkc⟩ := T.cell
  refine codeAny_call_function hr.depth (KX _ _ lk) rfl S.co S.gen rfl (PySem.W.codeRec_of KX T.code) (hb0 _ _ _ _ ?_)
  refine wpAny_newFunctionEnv S.nocell (fun ⟨n, _⟩ hy => S.par n (List.of_mem_zip hy).1) (fun h₁ hns hsb => ⟨lim.fresh _ hsb, ?_⟩) S.kind
  show codeAny _ _ (.func F.body (envF F f s.heap.objs.size)) _ _
  refine ks_codeAny_funcAt ?_
  have kp : ∀ b o, s.heap.get? b = some o → h₁.get? b = some o := fun b o e => hsb.extBut b o (Nat.ne_of_lt (Heap.lt_size e)) (Heap.get?_push_of_some _ e)
  have hC : CellsAt F.cl ["__class__"] [some (.ref D)] s.heap H := by
    rw [ecl]
    have look : ∀ y c, List.lookup y [(("__class__" : Str), cc)] = some c → y = "__class__" ∧ c = cc := fun y c z => by
      simp only [List.lookup] at z
      split at z
      · next q => exact ⟨eq_of_beq q, (Option.some.inj z).symm⟩
      · cases z
    have hcn : H cc = none := by
      obtain ⟨_, hbs⟩ := e0.bs cc _ (e0.mod.kin _ _ lkc)
      exact hbs
    refine ⟨rfl, fun y c z => ?_, fun x y c z1 z2 => ?_, fun i y z => ?_⟩
    · obtain ⟨_, rfl⟩ := look y c z
      exact ⟨hcn, _, _, KX _ _ lkc, rfl⟩
    · rw [(look x c z1).1, (look y c z2).1]
    · cases i with
      | zero =>
        have ey : "__class__" = y := by simpa using z
        subst ey
        refine ⟨cc, by simp [List.lookup], fun v hv => ?_⟩
        have ev : V.ref D = v := by simpa using hv
        subst ev
        exact ⟨.ref D, rfl, _, KX _ _ lkc, rfl⟩
      | succ i => simp at z
  obtain ⟨a, vs', ta, t, evs, ha, hpa, hps, hq⟩ := hbody A outer s H vs Q E (hr.deeper _) hsp
  have I : Inv (ncx CX0 P w K mg base N F f A outer s H E) [] (startF N vs [some (.ref D)]) H { s with heap := h₁, toks := s.toks + (ps.zip us).length } := inv_startN S hr.hd e0 hl r hC hns kp
  generalize hs1 : ({ s with heap := h₁, toks := s.toks + (ps.zip us).length } : Shared) = s1 at I ⊢
  have hs1h : s1.heap = h₁ := by rw [← hs1]
  obtain ⟨t1, hea⟩ := exo_at I.hok ha
  obtain ⟨cd, oD, hcd, hD1, hD2⟩ := excEnv I.kIn T.cls
  obtain ⟨foc, fod, fosl, fvs, file, tf, flk, fvs2, ffile⟩ := T.file
  have hks : (envF F f s.heap.objs.size).kindOf "super" = some .globalImplicit := hsk
  have hkc : (envF F f s.heap.objs.size).kindOf "__class__" = some .free := S.frk "__class__" (by simp)
  have hka : (envF F f s.heap.objs.size).kindOf ar.arg = some .local := S.par ar.arg (List.mem_of_getElem? har)
  obtain ⟨u0, us', rfl, ru0⟩ : ∃ u0 us', us = u0 :: us' ∧ RelV (.ref a) u0 := by
    rw [evs] at r
    cases r with
    | cons r0 rr => exact ⟨_, _, rfl, r0⟩
  obtain rfl : u0 = Value.ref a := ru0
  have ndP : ps.Nodup := by
    have q := S.nd.sublist (List.take_sublist (ps.length + 1) N)
    rw [show ps.length + 1 = ps.length + [("__class__" : Str)].length from rfl, S.pre] at q
    exact (List.nodup_append.mp q).1
  have hself : (ps.zip (Value.ref a :: us')).reverse.lookup ar.arg = some (.ref a) := zip_look (i := 0) ndP har rfl
  rw [hb]
  have fin : ∀ {σ' : L2.St} {H' : Hp} {v : V} {u : Value} {s' : Shared}, Inv (ncx CX0 P w K mg base N F f A outer s H E) [] σ' H' s' → L2.RelV v u → Q v H' → CE outer P w H s Q u s' :=
    fun {σ' H' v u s'} J rv q => ⟨v, H', J.os, J.bare, J.base, J.hok, rv, q⟩
  have hne : a ≠ D := fun z => by
    rw [z, hD1] at hea
    have e2 := Option.some.inj hea
    rw [e2] at hD2
    cases hD2
  obtain ⟨of2, hof2, hofc⟩ : ∃ of, s1.heap.get? f2 = some of ∧ of.cls = .type "function" := by
    have ht' : (K.lookup f2).map (·.cls) = some (.type "function") := T.ty2
    cases z : K.lookup f2 with
    | none => rw [z] at ht'; cases ht'
    | some of => rw [z] at ht'; exact ⟨of, I.kIn _ _ z, Option.some.inj ht'⟩
  have hsup := T.sup
  unfold PySem.W.ks_superIn at hsup
  rw [show PySem.W.clsIn K D = some cd from hcd] at hsup
  have hint : interactive (envF F f s.heap.objs.size) = false := by
    unfold interactive
    rw [show (envF F f s.heap.objs.size).scope.kind = .function from S.kind]
    rfl
  refine ks_wpAt_execs_cons (ks_wpAt_Expr_any (ks_wpAt_MethodCall (ks_wpAt_super_base (env := envF F f s.heap.objs.size) hks hkc (by decide) rfl (I.kIn _ _ lk) rfl hp rfl (I.kIn _ _ flk) rfl fvs2 ffile htop ?_) (ht _)) hint (hsw _))
  obtain ⟨mb, hbl1, hbl2⟩ := I.mod.blt
  refine PySem.W.ks_loadName_global S.kind hks (Calls.loadGlobal_builtin (env := envF F f s.heap.objs.size) (I.mod.glob.keeps I.bk) hsg (hbl1.keeps I.bk) ((hbl2 "super" (by decide)).trans boot_super) ⟨rfl, ?_⟩)
  refine wpAny_loadName_free (env := envF F f s.heap.objs.size) (c := cc) S.kind hkc (by show F.cl.lookup ("__class__" : Str) = _; rw [ecl]; simp [List.lookup]) ⟨_, I.kIn _ _ lkc, rfl⟩ ?_
  refine wpAny_loadName_local (env := envF F f s.heap.objs.size) S.kind hka (by rw [hs1h]; exact hns) hself ?_
  obtain ⟨hh, g1, d1, tk1, os1⟩ := s1
  refine ks_wpAny_isType_cls hD1 hD2 ⟨rfl, ?_⟩
  refine ks_wpAny_call_super hD1 hD2 hea rfl (fun c e => nomatch e) (PySem.W.looks_mroIn I.kIn T.sub) (fun h2 e2 k2 => ?_)
  have I2 : Inv (ncx CX0 P w K mg base N F f A outer s H E) [] (startF N vs [some (.ref D)]) H ⟨h2, g1, d1, tk1, os1⟩ := I.kept (t' := tk1) k2
  refine ks_wpAny_getMethod_super e2 (PySem.W.looks_opaque I2.kIn T.opq) (l₀ := cd.mro) (fun A Q E s k q => wpAny_bind ((PySem.W.looks_clsIn I2.kIn hcd) A _ E s k (wpAny_pure q))) rfl I2.kIn hsup (k2 _ _ hof2) hofc hne (by decide) ?_
  have I3 := met_new (g := f2) (C := a) I2
  refine callwith_cm I3 (base_none I2 (Nat.le_refl _)) T.fn2 (thn (hpa.run p3 _ _ _ H _ I3 hq) fun us2 s3 ⟨ws, H1, I4, rv, q2⟩ => ⟨⟨pin_at I4, I4.kIn⟩, ?_⟩) (he _) (hpl _)
  have r2 : Vals (V.ref a :: ws) (Value.ref a :: us2) := .cons rfl rv
  have hl2 : (Value.ref a :: us2 ++ []).length = ps2.length := by
    rw [List.append_nil, ← r2.length]
    exact F2.len _ _ _ _ q2
  have bb := b2 s3 (Value.ref a :: us2) I4.kIn hl2
  rw [List.append_nil] at bb
  refine wpAny_call (PySem.W.method_call (pin_at I4) (codeAny_mono (F2.run _ _ s3 H1 ⟨Value.ref a :: us2, []⟩ (Value.ref a :: us2) (V.ref a :: ws) _ _ (hr.deeper _) I4.env0 bb r2 q2) fun rr s' hq' => ?_))
  cases rr with
  | error er => exact False.elim hq'
  | ok fl =>
    cases fl with
    | next => exact False.elim hq'
    | brk => exact False.elim hq'
    | cont => exact False.elim hq'
    | ret u =>
      obtain ⟨v, H2, I5, rv5, q5⟩ := unpinE (I4.after hq')
      refine wpAt_of_wpAny (wpAny_mono (hps.run [] s' _ H2 _ I5 q5) (fun fl s6 hs => ?_) fun e s6 hs => hs)
      cases fl with
      | ret u =>
        obtain ⟨v, σ', H', J, rv, q⟩ := hs
        exact fin J rv q
      | next =>
        obtain ⟨σ', H', J, q⟩ := hs
        exact fin (v := V.non) (u := Value.none) J rfl q
      | brk =>
        obtain ⟨_, _, _, q⟩ := hs
        exact False.elim q
      | cont =>
        obtain ⟨_, _, _, q⟩ := hs
        exact False.elim q
end

/-! ### the two sorts of __init__ -/
/-- what stands behind such an __init__ -/
def Made (H : Hp) (a D : Addr) (fs : List (Str × V)) (Q : VK) : Prop := ∀ (dx : Addr) (H' : Hp), H dx = none → dx ≠ a → H' a = some (exo a D (some dx)) → H' dx = some (exd dx fs) → (∀ b, b ≠ a → b ≠ dx → H' b = H b) → Q .non H'
/-- self.code = code -/
def spBase (K : PySem.W.Frag) : Sp := fun vs H Q _ => ∃ a D z, vs = [.ref a, z] ∧ OexC K D ∧ PySem.W.findIn K (.ref D) "code" = some none ∧ H a = some (exo a D none) ∧ Made H a D [(("code" : Str), z)] Q
/-- super().__init__(code); self.f = .. -/
def spSub (D : Addr) (code : Str) (fl : List Str) : Sp := fun vs H Q _ => ∃ a ws, vs = .ref a :: ws ∧ ws.length = fl.length ∧ H a = some (exo a D none) ∧ Made H a D ((fl.zip ws).reverse ++ [(("code" : Str), V.str code)]) Q
section
variable {P : Program} {w : World} {K : PySem.W.Frag} {mg : Str → Option Value} {base : Heap}
theorem ok_base {qual : Str} {params : Arguments} {scope : Scope} {f : Addr} {fd : FuncData} {q1 q2 q3 q4 : Pos} (F : FunD K "__init__" qual params [.Assign [.Attribute (.Name "self" q1) "code" q2] (.Name "code" q3) q4] scope [] [] f fd) (S : FnScope ["self", "code"] ["self", "code"] scope) :
    FnOk P w K mg base CX0 1 f fd ["self", "code"] (spBase K) := by
  refine F.ok (k := 0) S (fun vs H Q E h => ?_) (fun cdv A outer s H vs Q E hr h => ?_)
  · obtain ⟨a, D, z, rfl, _⟩ := h
    rfl
  · obtain ⟨a, D, z, rfl, T, hno, ha, hm⟩ := h
    have e0 : ∀ X : Cx, X.env.scope = scope → X.N = ([("self" : Str), ("code" : Str)] : List Str) → PE X (.Name "self" q1) (tVar 0) := fun X h1 h2 => pe_var (by rw [h2]; rfl) (by rw [h1]; exact (S.par "self" (by simp)).imp_right Or.inl)
    have e1 : ∀ X : Cx, X.env.scope = scope → X.N = ([("self" : Str), ("code" : Str)] : List Str) → PE X (.Name "code" q3) (tVar 1) := fun X h1 h2 => pe_var (by rw [h2]; rfl) (by rw [h1]; exact (S.par "code" (by simp)).imp_right Or.inl)
    refine ⟨_, pss_one (ps_ost (e0 _ rfl rfl) (e1 _ rfl rfl)), z, rfl, .ref a, rfl, a, D, rfl, T, hno, .inl ⟨ha, fun dx hdx hne => ?_⟩⟩
    refine hm dx _ hdx hne upd_same ?_ fun b h1 h2 => ?_
    · rw [upd_ne hne, upd_same]
    · rw [upd_ne h1, upd_ne h2]
/-- the stores behind super().__init__ -/
def tOsts (K : PySem.W.Frag) : List (Str × Nat) → TS
  | [] => tNext
  | (f, i) :: r => tSeq (tOst K f (tVar 0) (tVar i)) (tOsts K r)
theorem osts {D a dx : Addr} {T : OexC K D} {Q : VK} {rt : VK} : ∀ (l : List (Str × Nat)) (fs : List (Str × V)) (ws : List V) (σ : L2.St) (H : Hp), fs.length + l.length ≤ 900 → σ[0]? = some (some (.ref a)) → (∀ q ∈ l, PySem.W.findIn K (.ref D) q.1 = some none) → ws.length = l.length →
    (∀ (i : Nat) (q : Str × Nat), l[i]? = some q → ∃ v, ws[i]? = some v ∧ σ[q.2]? = some (some v)) → H a = some (exo a D (some dx)) → H dx = some (exd dx fs) → a ≠ dx →
    (∀ H', H' a = some (exo a D (some dx)) → H' dx = some (exd dx (((l.map (·.1)).zip ws).reverse ++ fs)) → (∀ b, b ≠ a → b ≠ dx → H' b = H b) → Q .non H') → tOsts K l { nx := fun _ H' => Q .non H', rt := rt } σ H
  | [], fs, ws, σ, H, _, _, _, hl, _, ha, hd, _, k => by
    cases ws with
    | nil => exact k H ha hd fun _ _ _ => rfl
    | cons _ _ => cases hl
  | (f, i) :: r, fs, ws, σ, H, hz, h0, hno, hl, hw, ha, hd, hne, k => by
    cases ws with
    | nil => cases hl
    | cons v ws =>
      obtain ⟨v', e1, e2⟩ := hw 0 (f, i) rfl
      cases e1
      refine ⟨v, e2, .ref a, h0, a, D, rfl, T, hno (f, i) (List.mem_cons_self ..), .inr ⟨dx, fs, ha, hd, by simp only [List.length_cons] at hz; omega, ?_⟩⟩
      refine osts (T := T) r ((f, v) :: fs) ws σ _ (by simp only [List.length_cons] at hz ⊢; omega) h0 (fun q hq => hno q (List.mem_cons_of_mem _ hq)) (by simpa using hl) (fun j q hq => ?_) (by rw [upd_ne hne]; exact ha) upd_same hne fun H' h1 h2 h3 => ?_
      · obtain ⟨z, z1, z2⟩ := hw (j + 1) q (by simpa using hq)
        exact ⟨z, by simpa using z1, z2⟩
      · refine k H' h1 ?_ fun b b1 b2 => (h3 b b1 b2).trans (upd_ne b2)
        rw [h2]
        simp
theorem ok_sub {k : Nat} {f D f2 : Addr} {F : NF} {fd fd2 : FuncData} {N ps : List Str} {code : Str} {l : List (Str × Nat)} {ar : Arg} {p0 p1 p2 p3 p4 p5 : Pos} {rest : List Stmt} {u5 : Nat} (S : NScope N ps ["__class__"] F.scope) (T : SupD P K F fd f D f2) (C : OexC K D) (htop : (P.main.scope.names.lookup ("super" : Str)).isSome = false) (hsg : mg "super" = none) (hsk : F.scope.names.lookup ("super" : Str) = some .globalImplicit)
    (hp : (F.params.posonlyargs ++ F.params.args).head? = some ar) (har : ps[0]? = some ar.arg) (F2 : FnOk P w K mg base CX0 k f2 fd2 ["self", "code"] (spBase K)) (b2 : Binds K fd2 ["self", "code"] [])
    (hb : F.body = .Expr (.Call (.Attribute (.Call (.Name "super" p0) [] [] p1) "__init__" p2) [.Constant (.str code) u5 p5] [] p3) p4 :: rest)
    {pl : Env → Sem Bool} (ht : ∀ env, eval (.Call (.Attribute (.Call (.Name "super" p0) [] [] p1) "__init__" p2) [.Constant (.str code) u5 p5] [] p3) env = (do
      let ov ← attributeBase (.Call (.Name "super" p0) [] [] p1) "__init__" env (eval (.Call (.Name "super" p0) [] [] p1) env)
      standAt p2.atName
      let (f, first) ← holding [ov] (getMethod ov "__init__" (pl env))
      callWith p3 f first (backTo p3 (starEach [.Constant (.str code) u5 p5] env)) []))
    (hsw : ∀ env, swapsWith (.Call (.Attribute (.Call (.Name "super" p0) [] [] p1) "__init__" p2) [.Constant (.str code) u5 p5] [] p3) none p4.line env = pure false)
    (hl : ps.length = l.length + 1) (hl9 : l.length ≤ 800) (hli : ∀ (i : Nat) (q : Str × Nat), l[i]? = some q → q.2 = i + 1) (hcode : PySem.W.findIn K (.ref D) "code" = some none) (hno : ∀ q ∈ l, PySem.W.findIn K (.ref D) q.1 = some none)
    (hrest : ∀ (A : Around) (outer : List Env) (s : Shared) (H : Hp) (E : XK), PSs (ncx CX0 P w K mg base N F f A outer s H E) rest (tOsts K l)) :
    FnOk P w K mg base CX0 (k + 1) f fd ps (spSub D code (l.map (·.1))) := by
  refine fn_super S T htop hsg hsk hp har F2 b2 hb ht hsw (fun _ => rfl) (fun _ => rfl) (fun vs H Q E h => ?_) (fun A outer s H vs Q E hr h => ?_)
  · obtain ⟨a, ws, rfl, hw, _⟩ := h
    rw [List.length_cons, hw, List.length_map, hl]
  · obtain ⟨a, ws, rfl, hw, ha, hm⟩ := h
    rw [List.length_map] at hw
    refine ⟨a, ws, _, _, rfl, ha, pa_cons pe_str pa_nil, hrest A outer s H E, ?_⟩
    refine ⟨a, D, .str code, rfl, C, hcode, ha, fun dx H' hdx hne h1 h2 h3 => ?_⟩
    refine osts (T := C) l [(("code" : Str), V.str code)] ws _ H' (by simp only [List.length_cons, List.length_nil]; omega) ?_ hno hw (fun i q hq => ?_) h1 h2 (Ne.symm hne) fun H2 g1 g2 g3 => ?_
    · simp [startF]
    · have hi : i < l.length := (List.getElem?_eq_some_iff.mp hq).1
      refine ⟨ws[i]'(by omega), by simp, ?_⟩
      rw [hli i q hq]
      unfold startF
      rw [List.getElem?_append_left (by simp only [List.length_map, List.length_cons]; omega)]
      simp [List.getElem?_map]
    · exact hm dx H2 hdx hne g1 g2 fun b b1 b2 => (g3 b b1 b2).trans (h3 b b1 b2)
end

/-! ### C(..), to be raised -/
/-- the error class at C: its code, its other attributes -/
structure ErrOk (P : Program) (w : World) (K : PySem.W.Frag) (mg : Str → Option Value) (base : Heap) (C : Addr) (code : Str) (fl : List Str) : Prop where
  oex : OexC K C
  ex : ∃ (fI : Addr) (fd : FuncData) (ps : List Str), PySem.W.findIn K (.ref C) "__init__" = some (some (.ref fI)) ∧ PySem.W.typeIn K (.ref fI) = some (.type "function") ∧ FnOk P w K mg base CX0 2 fI fd ps (spSub C code fl) ∧ Binds K fd ps []
def xFields (code : Str) (fl : List Str) (ws : List V) : List (Str × V) := (fl.zip ws).reverse ++ [(("code" : Str), V.str code)]
def tMkX (C : Addr) (code : Str) (fl : List Str) (ta : TA) : L2.St → Hp → XK → Prop := fun σ H Q => ta σ H fun ws H1 => ws.length = fl.length ∧ ws.length ≤ 1000 ∧ ∀ d, H1 d = none → Q (.ref C) (some d) (upd H1 d (.xd (xFields code fl ws)))
section
variable {X : Cx} {x code : Str} {fl : List Str} {e : Expr} {es : List Expr} {ta : TA} {p pos : Pos} {C : Addr}
theorem pmkX_run (T : ErrOk X.prog X.w X.K X.mg X.base C code fl) (hr : Room 3 X.A) {pins : List (Addr × Obj)} {s1 : Shared} {σ : L2.St} {H1 : Hp} {Q : XK} {vs : List V} {us : List Value} (I1 : Inv X pins σ H1 s1) (r1 : Vals vs us)
    (hl : vs.length = fl.length) (hz : vs.length ≤ 1000) (hq : ∀ d, H1 d = none → Q (.ref C) (some d) (upd H1 d (.xd (xFields code fl vs)))) : wpAny (model X.prog X.w) X.A (call (.ref C) us) (L2N.MkP X pins σ Q) X.xe s1 := by
  obtain ⟨nm, q, N, bs, bm, sn, sub, ab, col, dd, k0, k1, k2, k3, k5, hC, hbm⟩ := T.oex.cls
  obtain ⟨fI, fd, ps, iC, tI, F1, hb⟩ := T.ex
  obtain ⟨hp, g, dr, tk, os⟩ := s1
  have hsz : hp.objs.size ≤ hp.objs.size + 1 := Nat.le_succ _
  have hn : H1 (hp.objs.size + 1) = none := I1.hok.fresh hsz
  have hsp : spSub C code fl (V.ref (hp.objs.size + 1) :: vs) (upd H1 (hp.objs.size + 1) (exo (hp.objs.size + 1) C none)) (fun v H2 => v = .non ∧ ∃ (d : Addr) (fs : List (Str × V)), H2 (hp.objs.size + 1) = some (exo (hp.objs.size + 1) C (some d)) ∧ H2 d = some (exd d fs) ∧ H1 d = none ∧ Q (.ref C) (some d) (upd (del H2 (hp.objs.size + 1)) d (.xd fs))) (fun _ _ _ => False) := by
    refine ⟨_, vs, rfl, hl, upd_same, fun dx H' hdx hne h1 h2 h3 => ⟨rfl, dx, _, h1, h2, by rw [upd_ne hne] at hdx; exact hdx, ?_⟩⟩
    have hd1 : H1 dx = none := by rw [upd_ne hne] at hdx; exact hdx
    have e : upd (del H' (hp.objs.size + 1)) dx (.xd (xFields code fl vs)) = upd H1 dx (.xd (xFields code fl vs)) := by
      funext b
      by_cases hb : b = dx
      · rw [hb, upd_same, upd_same]
      · rw [upd_ne hb, upd_ne hb]
        by_cases ha : b = hp.objs.size + 1
        · rw [ha, del_same, hn]
        · rw [del_ne ha, h3 b ha hb, upd_ne ha]
    have z := hq dx hd1
    rw [← e] at z
    exact z
  have kk : ∀ b o, hp.get? b = some o → ((hp.push (PySem.W.kdv_tup us)).push (PySem.HandSPX.excO C hp.objs.size)).get? b = some o := fun b o e => Heap.get?_push_of_some _ (Heap.get?_push_of_some _ e)
  have hget : ((hp.push (PySem.W.kdv_tup us)).push (PySem.HandSPX.excO C hp.objs.size)).get? (hp.objs.size + 1) = some (PySem.HandSPX.excO C hp.objs.size) := by heap_get
  have I2 : Inv X pins σ (upd H1 (hp.objs.size + 1) (exo (hp.objs.size + 1) C none)) ⟨(hp.push (PySem.W.kdv_tup us)).push (PySem.HandSPX.excO C hp.objs.size), g, dr, tk, os⟩ :=
    I1.laid (t' := tk) (a := hp.objs.size + 1) (o := exo (hp.objs.size + 1) C none) (h' := (hp.push (PySem.W.kdv_tup us)).push (PySem.HandSPX.excO C hp.objs.size)) kk hsz (exo_ok hget)
  have r2 : Vals (V.ref (hp.objs.size + 1) :: vs) (Value.ref (hp.objs.size + 1) :: us) := .cons rfl r1
  have hl2 : (Value.ref (hp.objs.size + 1) :: us ++ []).length = ps.length := by
    have e := r2.length
    rw [F1.len _ _ _ _ hsp] at e
    rw [List.append_nil]
    exact e.symm
  have hus : us.length ≤ sizeLine := by
    rw [← Paired.length r1, sizeLine_eq]
    omega
  have b2 := hb _ (Value.ref (hp.objs.size + 1) :: us) I2.kIn hl2
  rw [List.append_nil] at b2
  refine wpAny_call (PySem.HandSPX.call_own F.excBase_ValueError (fun Y => PySem.HandSPX.refsVE_contains Y bm hbm) (I1.kIn _ _ hC) (PySem.W.looks_findIn I1.kIn iC) (fun self => PySem.W.bind_fn I1.kIn self tI) hus
    (codeAny_mono (F1.run _ X.stack _ _ ⟨Value.ref (hp.objs.size + 1) :: us, []⟩ (Value.ref (hp.objs.size + 1) :: us) _ _ (fun _ _ _ => False) (hr.make C us []) (I2.env0.make C us []) b2 r2 hsp) fun r s' hq' => ?_))
  cases r with
  | error er => exact hq'.elim
  | ok fl =>
    cases fl with
    | ret u =>
      obtain ⟨v, H2, os2, bare2, un2, hok2, rv, ev, d, fs, ea, ed, hd1, q2⟩ := hq'
      subst ev
      obtain ⟨h2, g2, d2, t2, os'⟩ := s'
      obtain ⟨t0, G, J, kG, ge, hoe, na⟩ := mk_end0 (d2 := d2) (t2 := t2) I1 hsz kk un2 hok2 os2 bare2 ea ed hd1
      refine ⟨rv, hp.objs.size + 1, _, _, ⟨G, g2, d2, t2, os'⟩, _, .ref C, some d, rfl, J, kG, ge, hoe, ⟨rfl, rfl, fun vs hv => ?_⟩, rfl, rfl, na, rfl, bare2, raises_own T.oex.exC T.oex.tyC, q2⟩
      cases hv
      rfl
    | next => exact False.elim hq'
    | brk => exact False.elim hq'
    | cont => exact False.elim hq'
theorem pmkX (T : ErrOk X.prog X.w X.K X.mg X.base C code fl) (hr : Room 3 X.A) (hg : Gl X x) (hm : X.mg x = some (.ref C)) (ha : PA X (e :: es) ta)
    (hdb : (x == ("__debug__" : Str)) = false := by decide) (he : starEach (e :: es) X.env = (false, eval e X.env) :: starEach es X.env := by rfl) (hpl : (backTo pos (starEach es X.env)).any (·.1) = false := by rfl) :
    L2N.PMk X (.Call (.Name x p) (e :: es) [] pos) (tMkX C code fl ta) := by
  intro pins s σ H Q I h
  refine wpAny_Call_Name_kw (ld_glob I hg hm ?_ hdb)
  refine PySem.W.callWith_K (h₀ := X.base) I.ok.mod.kin T.oex.kC (thn (ha.run pos pins s σ H _ I h) fun us s1 ⟨vs, H1, I1, r1, hl, hz, q1⟩ => ⟨I1.kIn, ?_⟩) he hpl
  exact pmkX_run T hr I1 r1 hl hz q1
theorem pmkX0 (T : ErrOk X.prog X.w X.K X.mg X.base C code fl) (hr : Room 3 X.A) (hg : Gl X x) (hm : X.mg x = some (.ref C)) (hdb : (x == ("__debug__" : Str)) = false := by decide) :
    L2N.PMk X (.Call (.Name x p) [] [] pos) (tMkX C code fl tNil) := by
  intro pins s σ H Q I h
  obtain ⟨hl, hz, q1⟩ := h
  refine wpAny_Call_Name_kw (ld_glob I hg hm ?_ hdb)
  exact PySem.W.callWith_K0 (first := []) I.kIn T.oex.kC (pmkX_run T hr I .nil hl hz q1)
end
end J

/-! J16: where an exception is handled: a list's turns, a comprehension, defs that ask the handled exception. -/
namespace J
open PySem PySem.Spec PyProof.Rows L2 L2H HotX ClX

section
variable {prog : Program} {w : World} {A : Around} {E : Value → Shared → Prop} {s : Shared}
/-- the end of a list's iterator while an exception is handled -/
theorem list_end_hot {it l x1 : Addr} {i : Nat} {items : Array Value} {Q : Option Value → Shared → Prop} (hot : HotAt A x1 s.heap) (hit : s.heap.IsListIter it l i) (hl : s.heap.IsList l items) (hx : items[i]? = none) (hne : x1 ≠ it)
    (hQ : ∀ h', (∀ b o, b ≠ it → s.heap.get? b = some o → h'.get? b = some o) → Q none { s with heap := h' }) : wpAny (model prog w) A (pyNext (.ref it)) Q E s := by
  obtain ⟨hh, o1, vs1, g1, d1, c1⟩ := hot
  obtain ⟨o, ho, hc, hd⟩ := id hit
  obtain ⟨ol, hol, _, nl, hdl⟩ := hl
  unfold pyNext
  refine wpAny_bind (wpAny_attempt (wpAny_callSpecial?_slot (name := Str.ofString "__next__") hit.typeIs slot_listiter_next
    (wpAny_call_entry slot_listiter_next hit.typeIs entry_listiter_next ?_ (args_listiter_next _))))
  show wpAny _ _ (field (.ref it) 0 >>= _) _ _ s
  refine wpAny_bind (wpAny_field ho hd (x := .ref l) rfl ?_)
  show wpAny _ _ (if (Value.ref l == Value.none) = true then _ else _) _ _ s
  rw [if_neg (show ¬ ((Value.ref l == Value.none) = true) from Bool.false_ne_true)]
  show wpAny _ _ (field (.ref it) 1 >>= _) _ _ s
  refine wpAny_bind (wpAny_field ho hd (x := .int i 0) rfl ?_)
  show wpAny _ _ (seqItems? (.ref l) >>= _) _ _ s
  refine wpAny_bind (wpAny_seqItems hol hdl ?_)
  simp only [Int.toNat_natCast, hx]
  refine wpAny_bind (wpAny_rule (wpAny_bind (wpAny_setField ho hd (by simp) ?_)))
  have g2 : (s.heap.update it (Obj.mapFields (·.setIfInBounds 0 Value.none))).get? x1 = some o1 := (Heap.get?_update_other _ _ hne.symm).trans g1
  show wpAny _ _ (newExc (.type "StopIteration") [] >>= _) _ _ _
  refine wpAny_bind ?_
  simp only [newExc, newTuple]
  refine wpAny_bind (wpAny_newObj_type ?_ (by size_fits))
  refine wpAny_bind (m := firstArgMember _ _) (wpAny_of_eq (a := Value.none) (by first | rfl | (simp only [firstArgMember]; rfl)) ?_)
  refine wpAny_newObj_type ?_ (by size_fits)
  refine raiseNew_hot ⟨hh, o1, vs1, Heap.get?_push_of_some _ (Heap.get?_push_of_some _ g2), d1, c1⟩ (Nat.ne_of_lt (Heap.lt_size (Heap.get?_push_of_some _ g2))) (Heap.get?_push_size _ rfl) rfl (by first | (simp; done) | (simp; omega) | (simp only [Array.size_append]; simp; omega)) ?_
  refine wpAny_bind (wpAny_isInstance (T := "StopIteration") (b := true) ⟨_, Heap.get?_update_self _ (Heap.get?_push_size _ rfl) rfl, rfl⟩ isSubtype_stop ?_)
  refine wpAny_pure (hQ _ fun b o hb e => ?_)
  have e1 : (s.heap.update it (Obj.mapFields (·.setIfInBounds 0 Value.none))).get? b = some o := (Heap.get?_update_other _ _ hb.symm).trans e
  rw [Heap.get?_update_other _ _ (Nat.ne_of_gt (Heap.lt_size (Heap.get?_push_of_some _ e1)))]
  exact Heap.get?_push_of_some _ (Heap.get?_push_of_some _ e1)
end

/-! ### a list's turns -/
section
variable {X : Cx} {pins : List (Addr × Obj)} {σ : L2.St} {H : Hp} {s : Shared} {E : Value → Shared → Prop} {tg : Expr} {a it : Addr} {i : Nat}
theorem turn_obj {h : Heap} (st : h.IsListIter it a i) : ∀ b ∈ [it], ∃ o, h.get? b = some o ∧ ∀ v, o.data ≠ .cell v := fun b hb => by
  have e : b = it := by simpa using hb
  subst e
  obtain ⟨o, e, c, d⟩ := st
  exact ⟨o, e, fun v z => by rw [d] at z; cases z⟩
theorem turn_item (I : Inv X pins σ H s) (hf : FpOk X pins H it) (st : s.heap.IsListIter it a i) (hg : (Itl X.K a).go i H) : wpAny (model X.prog X.w) X.A (pyNext (.ref it)) (fun r s1 => ∃ u, r = some u ∧
    wpAny (model X.prog X.w) X.A (letOwnedTupleGo tg (.ref it) u) (fun _ s2 => ∃ x H', Inv X pins σ H' s2 ∧ RelV x u ∧ (Itl X.K a).yld i H x H' ∧ s2.heap.IsListIter it a (i + 1) ∧ H' it = none) E s1) E s := by
  obtain ⟨xs, x, hq, hx⟩ := hg
  obtain ⟨its, rv, p, hz⟩ := I.list hq
  obtain ⟨u, hu, ru⟩ := rv.get hx
  obtain ⟨f0, f1, f2, f3, f4, f5⟩ := hf
  refine wpAny_pyNext_list_item st p.isList (x := u) (by simpa using hu) fun h' st' sb => ?_
  have I1 : Inv X pins σ H { s with heap := h' } := I.turned (t' := s.toks) (fun b o hb e => (sb.2 b hb).trans e) f0 f1 f3 f4 f5
  obtain ⟨o, e, c, d⟩ := id st'
  exact ⟨u, rfl, go_of (s := { s with heap := h' }) e c d (by decide) ⟨x, H, I1, ru, ⟨rfl, fun ys hy => by rw [I.list_inj hy hq]; exact hx⟩, st', f0⟩⟩
theorem turn_done {x1 : Addr} (I : Inv X pins σ H s) (hot : HotAt X.A x1 s.heap) (hne : x1 ≠ it) (hf : FpOk X pins H it) (st : s.heap.IsListIter it a i) (hg : (Itl X.K a).stop i H) : wpAny (model X.prog X.w) X.A (pyNext (.ref it)) (fun r s1 => r = none ∧ Inv X pins σ H s1) E s := by
  obtain ⟨xs, hq, hx⟩ := hg
  obtain ⟨its, rv, p, hz⟩ := I.list hq
  obtain ⟨f0, f1, f2, f3, f4, f5⟩ := hf
  have hl := rv.length
  exact list_end_hot hot st p.isList (by simp; omega) hne fun h' eb => ⟨rfl, I.turned (t' := s.toks) (fun b o hb e => eb b o hb e) f0 f1 f3 f4 f5⟩
end
/-- what is walked is a list -/
structure PIX (X : Cx) (iter : Expr) (wi : TI) : Prop where
  run : ∀ (pins : List (Addr × Obj)) (s : Shared) (σ : L2.St) (H : Hp) (R : It → Hp → Prop), Inv X pins σ H s → wi σ H R →
    wpAny (model X.prog X.w) X.A (eval iter X.env) (fun v s1 => wpAny (model X.prog X.w) X.A (pyIter v) (fun itv s2 => ∃ (it a : Addr) (H' : Hp), itv = .ref it ∧ Inv X pins σ H' s2 ∧ s2.heap.IsListIter it a 0 ∧ FpOk X pins H' it ∧ R (Itl X.K a) H') X.xe s1) X.xe s
theorem pix_imp {X : Cx} {iter : Expr} {wi wi' : TI} (h : PIX X iter wi) (i : ∀ σ H R, wi' σ H R → wi σ H R) : PIX X iter wi' := ⟨fun pins s σ H R I q => h.run pins s σ H R I (i _ _ _ q)⟩
theorem pix_list {X : Cx} {l : Expr} {tl : TE} (hl : PE X l tl) : PIX X l (iList X.K tl) := by
  refine ⟨fun pins s σ H R I h => ?_⟩
  refine thn (hl.run pins s σ H _ I h) fun v s1 ⟨x, H1, I1, r1, q1⟩ => ?_
  obtain ⟨a, e, ⟨xs, hq⟩, q⟩ := q1
  subst e
  cases r1
  obtain ⟨its, rv, p, hz⟩ := I1.list hq
  refine wpAny_pyIter_list p.isList ?_
  exact ⟨s1.heap.objs.size, a, H1, rfl, I1.kept (t' := s1.toks) fun b o e => Heap.get?_push_of_some _ e, ⟨_, Heap.get?_push_size _ rfl, rfl, rfl⟩, I1.fpOk (Nat.le_refl _) (I1.hok.fresh (Nat.le_refl _)), q⟩
section
variable {X : Cx}
/-- [elt for target in a list if ..] -/
theorem pe_lcH {elt tg iter : Expr} {ifs : List Expr} {scope : Scope} {own : List (Str × Nat)} {pos : Pos} {wi : TI} {g : TG} {tt : TT} {te : TE} (hc : HotC X) (hN : X.N.Nodup) (hi : PIX X iter wi) (ok : BlkOk X.N X.env.scope scope own)
    (hg : ∀ (s : Shared) (H : Hp) (C : Addr) (cl : List (Str × Addr)) (fp : List Addr), PG (X.blk s H scope (compEnvC scope cl C X.env) fp) tg g) (ht : ∀ (s : Shared) (H : Hp) (C : Addr) (cl : List (Str × Addr)) (fp : List Addr), PTs (X.blk s H scope (compEnvC scope cl C X.env) fp) ifs tt)
    (he : ∀ (s : Shared) (H : Hp) (C : Addr) (cl : List (Str × Addr)) (fp : List Addr), PE (X.blk s H scope (compEnvC scope cl C X.env) fp) elt te) (hs : ∀ x, foldedSetIterable iter X.env x = pure x := by intro _; rfl) :
    PE X (.ListComp elt [⟨tg, iter, ifs, 0⟩] scope pos) (tLc wi g tt te (own.map (·.2))) := by
  refine ⟨fun pins s σ H Q I h => ?_⟩
  rw [eval_ListComp]
  obtain ⟨p, hot1, hpn⟩ := hc
  have hfree : ∀ y ∈ scope.names, y.2 = .free → ∃ c, X.env.cells.lookup y.1 = some c := fun y hy e => by
    rcases ok.free y hy e with k | k
    · exact I.ok.has _ (.inl k)
    · exact I.ok.has _ (.inr k)
  refine wpAny_comprehension_free (use := none) rfl hs (closure_ok hfree) ok.kind (fun y hy e => by rw [ok.uniq y hy, e])
    (thn (hi.run pins s σ H _ I h) fun xv s1 hx => thn hx fun itv s2 h2 => ?_)
  obtain ⟨it, a, H2, e, I2, st2, f2, q⟩ := h2
  subst e
  refine wpAny_newObj_type (newEnv_comp ?_) (by show 0 ≤ sizeLine; decide)
  generalize hD : s2.heap.objs.size = D
  have hDn : H2 D = none := I2.hok.fresh (Nat.le_of_eq hD)
  obtain ⟨W, ⟨m0, w0⟩, turn⟩ := q D hDn
  generalize hs3 : ({ s2 with heap := s2.heap.push { cls := .type "list", data := .seq ([] : List Value).toArray } } : Shared) = s3
  have I3 : Inv X pins σ (upd H2 D (.lst [])) s3 := by
    rw [← hs3]
    refine I2.laid (t' := s2.toks) (fun b o e => Heap.get?_push_of_some _ e) (Nat.le_of_eq hD) ⟨Nat.zero_le _, [], 0, .nil, ?_⟩
    rw [← hD]
    exact Heap.get?_push_size _ rfl
  have h3 : s3.heap = s2.heap.push { cls := .type "list", data := .seq ([] : List Value).toArray } := by rw [← hs3]
  have szit : it < s2.heap.objs.size := by
    obtain ⟨o, e, _⟩ := st2
    exact Heap.lt_size e
  have f3 : FpOk X pins (upd H2 D (.lst [])) it := ⟨by rw [upd_ne (by rw [← hD]; exact Nat.ne_of_lt szit)]; exact f2.1, f2.2⟩
  have f3' : ∀ b ∈ [it], FpOk X pins (upd H2 D (.lst [])) b ∧ b < s3.heap.objs.size := fun b hb => by
    have e : b = it := by simpa using hb
    subst e
    exact ⟨f3, by rw [h3, Heap.size_push]; exact Nat.lt_succ_of_lt szit⟩
  have st3 : s3.heap.IsListIter it a 0 := st2.at fun o e => by rw [h3]; exact Heap.get?_push_of_some _ e
  have I4 := block_start I3 ok hN f3'
  have P3 := I3.pin p (List.mem_append_left _ hpn)
  have pg := hg s3 (upd H2 D (.lst [])) s3.heap.objs.size (cellsFrom (s3.heap.objs.size + 1) scope.names (cloFrom X.env.cells scope.names [])) [it]
  have pt := ht s3 (upd H2 D (.lst [])) s3.heap.objs.size (cellsFrom (s3.heap.objs.size + 1) scope.names (cloFrom X.env.cells scope.names [])) [it]
  have pe := he s3 (upd H2 D (.lst [])) s3.heap.objs.size (cellsFrom (s3.heap.objs.size + 1) scope.names (cloFrom X.env.cells scope.names [])) [it]
  show codeAny _ _ (.compStart (.ListComp elt [⟨tg, iter, ifs, 0⟩] scope pos) 0 (.ref it) (.ref D) (compEnvC scope (cellsFrom (s3.heap.objs.size + 1) scope.names (cloFrom X.env.cells scope.names [])) s3.heap.objs.size X.env)) (compPost (model X.prog X.w) X.A X.xe none (EP X pins σ Q) (.ref D) s3.heap.objs.size) { s3 with heap := pushCells (s3.heap.push { cls := .type "dict", data := .dict #[] }) scope.names }
  have hne : p.1 ≠ it := f3.2.2.2.2.2 p (List.mem_append_left _ hpn)
  generalize hce : compEnvC scope (cellsFrom (s3.heap.objs.size + 1) scope.names (cloFrom X.env.cells scope.names [])) s3.heap.objs.size X.env = ce at I4 pg pt pe ⊢
  have cL : ce.locals = s3.heap.objs.size := by subst hce; rfl
  generalize hH3 : upd H2 D (.lst []) = H3 at I3 I4 pg pt pe w0 f3 f3' P3
  generalize hs4 : ({ s3 with heap := pushCells (s3.heap.push { cls := .type "dict", data := .dict #[] }) scope.names } : Shared) = s4 at I4 ⊢
  have st4 : s4.heap.IsListIter it a 0 := st3.at fun o e => by rw [← hs4]; exact pushCells_keeps _ _ _ _ (Heap.get?_push_of_some _ e)
  have I4p : Inv (X.blk s3 H3 scope ce [it]) [p] (wipe σ (own.map (·.2))) H3 s4 := I4.pins_of fun q hq => by
    have e : q = p := by simpa using hq
    subst e
    refine ⟨by rw [← hs4]; exact pushCells_keeps _ _ _ _ (Heap.get?_push_of_some _ P3.1), P3.2.1, ?_, ?_, P3.2.2.2.2⟩
    · show q.1 ≠ ce.locals
      rw [cL]
      exact Nat.ne_of_lt (Heap.lt_size P3.1)
    · exact fun hm => (List.mem_cons.mp (I3.stkSub q.1 hm)).elim P3.2.2.1 P3.2.2.2.1
  have stat : ∀ {pn : List (Addr × Obj)} {σ' : L2.St} {H' : Hp} {s' : Shared}, Inv (X.blk s3 H3 scope ce [it]) pn σ' H' s' → (∀ q ∈ pn, q.1 ≠ it) → H' it = none → FpOk (X.blk s3 H3 scope ce [it]) pn H' it := fun {pn σ' H' s'} I' hq hn =>
    ⟨hn, (I'.ok.exf it (by simp)).1, I'.ok.exfs it (by simp), .inl (by simp), fun x c e => (I'.ok.exf it (by simp)).2 x c e, fun q hq' => hq q (by simpa using hq')⟩
  have loop : codeAny (model X.prog X.w) X.A (.compLoop (.ListComp elt [⟨tg, iter, ifs, 0⟩] scope pos) 0 (.ref it) (.ref D) ce) (compPost (model X.prog X.w) X.A X.xe none (EP X pins σ Q) (.ref D) s3.heap.objs.size) s4 := by
    refine compLoop_any (fun n s' => ∃ i H', Inv (X.blk s3 H3 scope ce [it]) [p] (wipe σ (own.map (·.2))) H' s' ∧ s'.heap.IsListIter it a i ∧ H' it = none ∧ W i n H') ?_ m0 ⟨0, H3, I4p, st4, f3.1, w0⟩
    rintro n s5 ⟨i, H5, I5, st5, n5, w5⟩
    have pq : ∀ q ∈ [p], q.1 ≠ it := fun q hq => by
      have e : q = p := by simpa using hq
      rw [e]; exact hne
    have hotA : HotAt X.A p.1 s5.heap := by
      obtain ⟨hh, v1, e1, c1⟩ := hot1
      exact ⟨hh, p.2, v1, (I5.pin p (by simp)).1, e1, c1⟩
    rcases turn i n H5 w5 with ⟨stop, qq⟩ | ⟨go, Nx, hNx, step⟩
    · have td := turn_done (X := X.blk s3 H3 scope ce [it]) (E := fun _ _ => False) I5 hotA hne (stat I5 pq n5) st5 stop
      refine thnF td fun r s6 ⟨hr, I6⟩ => ?_
      subst hr
      have I6' : Inv (X.blk s3 H3 scope ce [it]) [] (wipe σ (own.map (·.2))) H5 s6 := I6.pins_of fun q hq => absurd hq (by simp)
      have I7 : Inv X pins σ H5 s6 := I3.call' (ch := [it]) I6'.os I6'.base I6'.hok I6'.bare fun b hb => by
        have e : b = it := by simpa using hb
        subst e
        exact ⟨f3.2.2.2.1, f3.2.1, f3.2.2.2.2.1, f3.2.2.2.2.2⟩
      have nC : H5 s3.heap.objs.size = none := by
        have z : H5 ce.locals = none := I6.free
        rw [cL] at z
        exact z
      obtain ⟨m, hn, _⟩ := I6.loc
      have hn : s6.heap.Ns ce.locals m := hn
      rw [cL] at hn
      obtain ⟨f0, f1, f2, f3, f4, f5⟩ := I3.fpOk (Nat.le_refl _) nC
      exact ⟨m, hn, fun h'' sb => ⟨.ref D, H5, I7.turned (t' := s6.toks) (fun b o hb e => (sb.2 b hb).trans e) f0 f1 f3 f4 f5, rfl, qq⟩⟩
    · have ti := turn_item (X := X.blk s3 H3 scope ce [it]) (tg := tg) (E := fun _ _ => False) I5 (stat I5 pq n5) st5 go
      refine thnF ti fun r s6 ⟨u, hr, h6⟩ => ?_
      subst hr
      refine thnF h6 fun _ s7 ⟨x, H7, I7, r7, y7, st7, n7⟩ => ?_
      have fpA : ∀ b ∈ [it], FpOk (X.blk s3 H3 scope ce [it]) [p] H7 b := fun b hb => by
        have e : b = it := by simpa using hb
        rw [e]; exact stat I7 pq n7
      have I7' := I7.pinned fpA (turn_obj st7)
      refine thnF (pg.run _ s7 _ H7 x u _ I7' r7 (step x H7 y7)) fun _ s8 ⟨σ8, H8, I8, hw8, q8⟩ => ?_
      refine thnF (pt.run _ s8 σ8 H8 _ I8 q8) fun b s9 ⟨H9, I9, q9⟩ => ?_
      have fin : ∀ {s' : Shared} {H' : Hp}, Inv (X.blk s3 H3 scope ce [it]) ([p] ++ pinsAt [it] s7.heap) σ8 H' s' → Nx H' → ∃ m, m < n ∧ ∃ i H', Inv (X.blk s3 H3 scope ce [it]) [p] (wipe σ (own.map (·.2))) H' s' ∧ s'.heap.IsListIter it a i ∧ H' it = none ∧ W i m H' := fun {s' H'} I' nx => by
        obtain ⟨m', hm, w'⟩ := hNx H' nx
        obtain ⟨o7, e7, _⟩ := turn_obj st7 it (by simp)
        have pin' := I'.pin (it, o7) (List.mem_append_right _ (List.mem_append_right _ (mem_pinsAt (by simp) e7)))
        have hl : (wipe σ (own.map (·.2))).length = σ8.length := by rw [← hw8, wipe_length]
        refine ⟨m', hm, i + 1, H', (I'.unpinned (pins := [p])).weak hl (fun j v e => ?_), st7.at fun o e => ?_, pin'.2.1, w'⟩
        · rw [← hw8] at e
          exact (wipe_some e).1
        · rw [e7] at e
          cases e
          exact pin'.1
      cases b with
      | false =>
        simp only [Bool.false_eq_true, if_false] at q9 ⊢
        exact fin I9 q9
      | true =>
        simp only [if_true] at q9 ⊢
        refine thnF (pe.run _ s9 σ8 H9 _ I9 q9) fun z s10 ⟨yv, H10, I10, r10, acc, hD10, hz10, nx⟩ => ?_
        exact app_ok (X := X.blk s3 H3 scope ce [it]) I10 hD10 hz10 r10 fun s11 I11 => fin I11 nx
  exact codeAny_compStart_list loop (wpAny_pyIter_listiter st4 loop)
end
end J

/-! J17: raise, try, defs that raise; where an exception is handled: defs that ask it. Over data. -/
namespace J
open PySem PySem.Spec PyProof.Rows L2 L2H HotX ClX

/-! ### defs called where p is handled -/
structure FnX (P : Program) (w : World) (K : PySem.W.Frag) (mg : Str → Option Value) (base : Heap) (CX : CXT) (k : Nat) (f : Addr) (fd : FuncData) (ps : List Str) (sp : Addr × Obj → Sp) : Prop where
  len : ∀ p vs H Q E, sp p vs H Q E → vs.length = ps.length
  run : ∀ (A : Around) (outer : List Env) (s : Shared) (H : Hp) (args : Args) (us : List Value) (vs : List V) (Q : VK) (E : XK) (p : Addr × Obj), RoomH k A → Hot1 A p → PinOk outer H s p → Env0 P w K mg base A outer s H → BindsTo s fd args (ps.zip us) → Vals vs us → sp p vs H Q E →
    codeAny (model P w) A (.call (.ref f) args) (CR CX outer P w H s Q E) s
theorem FnX.mono {P : Program} {w : World} {K : PySem.W.Frag} {mg : Str → Option Value} {base : Heap} {CX : CXT} {j k : Nat} {f : Addr} {fd : FuncData} {ps : List Str} {sp : Addr × Obj → Sp} (F : FnX P w K mg base CX j f fd ps sp) (h : j ≤ k) :
    FnX P w K mg base CX k f fd ps sp := ⟨F.len, fun A outer s H args us vs Q E p hr => F.run A outer s H args us vs Q E p (hr.mono h)⟩
theorem FunD.okX {P : Program} {w : World} {K : PySem.W.Frag} {mg : Str → Option Value} {base : Heap} {x qual : Str} {params : Arguments} {body : List Stmt} {scope : Scope} {dvs : List V} {kws : List (Str × V)} {f : Addr} {fd : FuncData} {CX : CXT} {N ps : List Str} {k : Nat} {sp : Addr × Obj → Sp}
    (F : FunD K x qual params body scope dvs kws f fd) (S : FnScope N ps scope) (len : ∀ p vs H Q E, sp p vs H Q E → vs.length = ps.length)
    (hbody : ∀ (cdv : Value) (A : Around) (outer : List Env) (s : Shared) (H : Hp) (vs : List V) (Q : VK) (E : XK) (p : Addr × Obj), Hot1 A p → RoomH k (A.deeper (envOfC qual scope s.heap.objs.size f cdv)) → sp p vs H Q E →
      ∃ t, PSs (cxH CX P w K mg base N qual scope f cdv A outer s H E p) body t ∧ t { nx := fun _ H' => Q .non H', rt := Q } (L2.start N vs) H) : FnX P w K mg base CX (k + 1) f fd ps sp := by
  obtain ⟨oc, od, dV, kV, doc, pm, an, cdv, ct, osl, rfl, lk, hcd, _, _⟩ := F.ex
  refine ⟨len, fun A outer s H args us vs Q E p hr hot hpin e0 hb r hsp => ?_⟩
  have KX : K.In s.heap := e0.mod.kin.keeps fun b o e => (e0.bs b o e).1
  have lim : s.heap.NoLimit := e0.mod.nolimit.keeps fun b o e => (e0.bs b o e).1
  have hkind : ∀ y ∈ ps.zip us, scope.names.lookup y.1 = some .local ∨ (scope.names.lookup y.1 = some .cell ∧ ((cellsFrom (s.heap.objs.size + 1) scope.names []).lookup y.1).isSome = true) := fun ⟨n, v⟩ hy => by
    rcases S.par n (List.of_mem_zip hy).1 with q | q
    · exact .inl q
    · exact .inr ⟨q, PySem.W.cellsFrom_some _ _ _ (.inl q)⟩
  refine codeAny_call_function hr.depth (KX _ _ lk) rfl S.co S.gen rfl (PySem.W.codeRec_of KX hcd) (hb _ _ _ _ ?_)
  refine wpAny_newFunctionEnv_cells S.kind hkind fun env he s1 x => ?_
  subst he
  refine ⟨lim.keeps x.toInCall.keep, codeAny_func ?_⟩
  obtain ⟨t, ht, hq⟩ := hbody cdv A outer s H vs Q E p hot (hr.deeper _) hsp
  have I : Inv (cxH CX P w K mg base N qual scope f cdv A outer s H E p) [] (L2.start N vs) H s1 := inv_startH S hpin e0 (len _ _ _ _ _ hsp) r x
  refine wpAny_mono (ht.run [] s1 (L2.start N vs) H _ I hq) (fun fl s' hs => ?_) fun e s' hs => hs
  have fin : ∀ {σ' : L2.St} {H' : Hp} {v : V} {u : Value}, Inv (cxH CX P w K mg base N qual scope f cdv A outer s H E p) [] σ' H' s' → RelV v u → Q v H' → CE outer P w H s Q u s' :=
    fun {σ' H' v u} J rv q => ⟨v, H', J.os, J.bare, J.base, J.hok, rv, q⟩
  cases fl with
  | ret u =>
    obtain ⟨v, σ', H', J, rv, q⟩ := hs
    exact fin J rv q
  | next =>
    obtain ⟨σ', H', J, q⟩ := hs
    exact fin (v := V.non) (u := Value.none) J rfl q
  | brk =>
    obtain ⟨_, _, _, q⟩ := hs
    exact False.elim q
  | cont =>
    obtain ⟨_, _, _, q⟩ := hs
    exact False.elim q
section
variable {X : Cx} {CX : CXT} {k : Nat} {f : Addr} {fd : FuncData} {ps : List Str} {sp : Addr × Obj → Sp} {E : L2.St → XK} {x : Str} {q pos : Pos} {e : Expr} {es : List Expr} {t : TA} {p : Addr × Obj}
theorem pe_callX (F : FnX X.prog X.w X.K X.mg X.base CX k f fd ps sp) (hr : RoomH k X.A) (hot : Hot1 X.A p) (hp : p ∈ X.pn) (hg : Gl X x) (hm : X.mg x = some (.ref f)) (hk : PySem.W.keepIn X.K (.ref f) = true) (hb : Binds X.K fd ps []) (hx : ∀ σ, PassesAt CX X σ (E σ))
    (ha : PA X (e :: es) t) (hdb : (x == ("__debug__" : Str)) = false := by decide) (he : starEach (e :: es) X.env = (false, eval e X.env) :: starEach es X.env := by rfl) (hpl : (backTo pos (starEach es X.env)).any (·.1) = false := by rfl) :
    PE X (.Call (.Name x q) (e :: es) [] pos) (tCallS (sp p) E t) := by
  refine ⟨fun pins s σ H Q I h => ?_⟩
  refine wpAny_Call_Name_kw (ld_glob I hg hm ?_ hdb)
  refine PySem.W.callWith_K (h₀ := X.base) I.ok.mod.kin hk (thn (ha.run pos pins s σ H _ I h) fun us s1 ⟨vs, H1, I1, r, q⟩ => ⟨I1.kIn, ?_⟩) he hpl
  have hl : us.length = ps.length := by rw [← r.length]; exact F.len _ _ _ _ _ q
  have b := hb s1 us I1.kIn (by rw [List.append_nil]; exact hl)
  rw [List.append_nil] at b
  have P1 := I1.pin p (List.mem_append_left _ hp)
  have hpin : PinOk X.stack H1 s1 p := ⟨P1.1, P1.2.1, fun hm => (List.mem_cons.mp (I1.stkSub p.1 hm)).elim P1.2.2.1 P1.2.2.2.1, P1.2.2.2.2⟩
  refine wpAny_call (codeAny_mono (F.run X.A X.stack s1 H1 ⟨us, []⟩ us vs Q (E σ) p hr hot hpin I1.env0 b r q) fun r s' hq => ?_)
  cases r with
  | error e => exact hx σ pins H1 s1 e s' I1 hq
  | ok fl =>
    cases fl with
    | ret u => exact I1.after hq
    | next => exact False.elim hq
    | brk => exact False.elim hq
    | cont => exact False.elim hq
end

/-! ### the handled exception: its class, its attributes -/
/-- the attributes that errors have of their own -/
def xNames : List Str := ["code", "word", "number", "bound", "place", "row", "column", "fault", "key"]
/-- what the class at D must say of such errors -/
structure ClsX (K : PySem.W.Frag) (D : Addr) : Prop where
  exc : ExcC K D
  fld : XfC K D
  no : ∀ f, xNames.contains f = true → PySem.W.findIn K (.ref D) f = some none
/-- p is an error of the class C (by its name), its attributes fs, settled -/
def PinX (K : PySem.W.Frag) (p : Addr × Obj) (C : Str) (fs : List (Str × D)) (F : Hp) : Prop := ClsX K (He.ga K C) ∧ p.2.cls = .ref (He.ga K C) ∧ (∃ vs, p.2.data = .fields vs) ∧ ∃ dd vs, p.2.dict = some dd ∧ F dd = some (.xd vs) ∧ RepF K F vs fs
theorem PinX.mono {K : PySem.W.Frag} {p : Addr × Obj} {C : Str} {fs : List (Str × D)} {F F' : Hp} (h : PinX K p C fs F) (ff : Same F F') : PinX K p C fs F' := by
  obtain ⟨h0, h1, h2, dd, vs, h3, h4, h5⟩ := h
  exact ⟨h0, h1, h2, dd, vs, h3, ff _ _ h4, h5.mono ff⟩
def ZX (K : PySem.W.Frag) (p : Addr × Obj) (C : Str) (fs : List (Str × D)) : Zw := ⟨fun F _ _ => PinX K p C fs F, fun h g => h.mono g.ff⟩
def excB (K : PySem.W.Frag) (D : Addr) : Bool := decide (PySem.W.findIn K (.ref D) "__getattribute__" = some (some (.builtin "BaseException.__getattribute__"))) && (decide (PySem.W.findIn K (.ref D) "__getattr__" = some none) && (decide (PySem.W.subIn K (.ref D) (.type "BaseException") = some true) && (PySem.W.hasDictIn K D &&
  (decide (PySem.W.findIn K (.ref D) "__class__" = some (some (.builtin "object.__class__"))) && (decide (PySem.W.specialIn K (.builtin "object.__class__") "__get__" = some (some (.builtin "getset_descriptor.__get__"))) && (decide (PySem.W.takesIn K (.builtin "object.__class__") = some true) && decide (PySem.W.mroIn K D (.type "object") = some true)))))))
theorem excB_ok {K : PySem.W.Frag} {D : Addr} (h : excB K D = true) : ExcC K D := by
  obtain ⟨h1, h⟩ := Bool.and_eq_true_iff.mp h
  obtain ⟨h2, h⟩ := Bool.and_eq_true_iff.mp h
  obtain ⟨h3, h⟩ := Bool.and_eq_true_iff.mp h
  obtain ⟨h4, h⟩ := Bool.and_eq_true_iff.mp h
  obtain ⟨h5, h⟩ := Bool.and_eq_true_iff.mp h
  obtain ⟨h6, h⟩ := Bool.and_eq_true_iff.mp h
  obtain ⟨h7, h8⟩ := Bool.and_eq_true_iff.mp h
  exact ⟨of_decide_eq_true h1, of_decide_eq_true h2, of_decide_eq_true h3, h4, of_decide_eq_true h5, of_decide_eq_true h6, of_decide_eq_true h7, of_decide_eq_true h8⟩
def clsXB (K : PySem.W.Frag) (D : Addr) : Bool := excB K D && (xfB K D && xNames.all fun f => decide (PySem.W.findIn K (.ref D) f = some none))
theorem clsXB_ok {K : PySem.W.Frag} {D : Addr} (h : clsXB K D = true) : ClsX K D := by
  obtain ⟨h1, h⟩ := Bool.and_eq_true_iff.mp h
  obtain ⟨h2, h3⟩ := Bool.and_eq_true_iff.mp h
  exact ⟨excB_ok h1, xfB_ok h2, fun f hf => of_decide_eq_true (List.all_eq_true.mp h3 f (by simpa using hf))⟩
section
variable {X : Cx} {p : Addr × Obj} {D : Addr}
theorem inst_at {pins : List (Addr × Obj)} {σ : L2.St} {H : Hp} {s : Shared} {dd : Addr} {vs : List (Str × V)} (I : Inv X pins σ H s) (hp : p ∈ X.pn) (hc : p.2.cls = .ref D) (hf : ∃ vs, p.2.data = .fields vs) (hd : p.2.dict = some dd) (hx : H dd = some (.xd vs)) :
    ∃ od, PySem.W.InstAt s.heap p.1 p.2 D (some od) ∧ ∀ name, ∃ o, PySem.W.lookIn name od = some o ∧ RelO (vs.lookup name) o := by
  obtain ⟨ha, _⟩ := I.pin p (List.mem_append_left _ hp)
  obtain ⟨fv, hv⟩ := hf
  have hx : ObjOk X.prog X.w H s.heap dd (.xd vs) := I.hok dd _ hx
  obtain ⟨mA, hns, hr⟩ := hx
  obtain ⟨od, ho, hl⟩ := lookIn_ns hns
  exact ⟨od, ⟨ha, hc, by unfold PySem.W.notCls; rw [hv] <;> rfl, by rw [hd]; exact ho⟩, fun name => ⟨_, hl name, hr name⟩⟩
/-- isinstance(e, c) of the handled error -/
def rIsX (K : PySem.W.Frag) (D : Addr) (p : Addr × Obj) : List V → Hp → VK → Prop := fun xs H Q => ∃ (c : V) (cv : Value) (b : Bool) (dd : Addr) (vs : List (Str × V)), xs = [.ref p.1, c] ∧ (∀ u, RelV c u → u = cv) ∧ PySem.W.kitOne K (.ref D) cv = some b ∧ p.2.dict = some dd ∧ H dd = some (.xd vs) ∧ Q (.bl b) H
theorem call_isX (hp : p ∈ X.pn) (C : ExcC X.K D) (hc : p.2.cls = .ref D) (hf : ∃ vs, p.2.data = .fields vs) : CallR X (.builtin "isinstance") (rIsX X.K D p) := by
  intro pins s σ H xs us Q I r h
  obtain ⟨c, cv, b, dd, vs, rfl, hcv, e, hd, hx, q⟩ := h
  cases r with
  | cons rx rr =>
    cases rr with
    | cons rt rr =>
      cases rr
      cases rx
      have ec := hcv _ rt
      subst ec
      obtain ⟨od, J, _⟩ := inst_at I hp hc hf hd hx
      have hcl : (PySem.W.clsIn X.K D).isSome = true := by
        obtain ⟨cd, hc, _⟩ := PySem.W.any_some C.hd
        rw [hc]; rfl
      exact PySem.W.kia_one (PySem.W.kitx_exc hcl C.hg C.hk C.hs C.ha C.hn C.ht C.hm) I.kIn J e (fun z => nomatch z) fun tk => ⟨.bl b, H, I.kept (t' := tk) fun _ _ z => z, rfl, q⟩
/-- e.f of the handled error -/
def tXfX (p : Addr × Obj) (f : Str) (te : TE) : TE := fun σ H Q => te σ H fun x H1 => x = .ref p.1 ∧ ∃ (dd : Addr) (fs : List (Str × V)) (v : V), p.2.dict = some dd ∧ H1 dd = some (.xd fs) ∧ fs.lookup f = some v ∧ Q v H1
theorem pe_xfX {e : Expr} {te : TE} {pos : Pos} {n : Str} (hp : p ∈ X.pn) (T : XfC X.K D) (hno : PySem.W.findIn X.K (.ref D) n = some none) (hc : p.2.cls = .ref D) (hf : ∃ vs, p.2.data = .fields vs) (he : PE X e te)
    (hb : attributeBase e n X.env (eval e X.env) = eval e X.env := by rfl) : PE X (.Attribute e n pos) (tXfX p n te) := by
  refine ⟨fun pins s σ H Q I h => ?_⟩
  refine attr_of hb (thn (he.run pins s σ H _ I h) fun u s1 hh => ?_)
  obtain ⟨x, H1, I1, rx, ex, dd, fs, v, ed, ea, l, q⟩ := hh
  subst ex
  obtain rfl : u = Value.ref p.1 := rx
  obtain ⟨od, J, hl⟩ := inst_at I1 hp hc hf ed ea
  obtain ⟨o, ho, hr⟩ := hl n
  obtain ⟨u, hu, ru⟩ := RelO.some_of (v := v) (o := o) (by rw [← l]; exact hr)
  exact HandSPX.exc_get I1.kIn J T.ga T.gg T.exC (PySem.W.findObj_own T.hdC hno rfl (by rw [ho, hu])) (handed_of ru) ⟨v, H1, I1.tok _, ru, q⟩
end

/-! ### over data: the handled error -/
section
variable {X : Cx} {p : Addr × Obj} {C : Str} {fs : List (Str × D)}
/-- isinstance(e, c): ob what the classes say -/
def jIsE (a : Addr) (ob : Option Bool) (ta : TE2) : TE2 := fun δ μ Q => ta δ μ fun x μ1 => x = .ref a ∧ ∃ b, ob = some b ∧ Q (.bl b) μ1
theorem jisE {ob : Option Bool} {c : V} {cv : Value} {ta : TE2} {e e2 : Expr} {q pos : Pos} (hp : p ∈ X.pn) (EC : ExcC X.K (He.ga X.K C)) (hc : p.2.cls = .ref (He.ga X.K C)) (hf : ∃ vs, p.2.data = .fields vs) (hcv : ∀ u, RelV c u → u = cv) (hob : ∀ b, ob = some b → PySem.W.kitOne X.K (.ref (He.ga X.K C)) cv = some b)
    (hg : Gl X "isinstance") (hm : X.mg "isinstance" = none) (he : E2 X (ZX X.K p C fs) e ta) (he2 : PE X e2 (tC c))
    (hst : starEach [e, e2] X.env = (false, eval e X.env) :: starEach [e2] X.env := by rfl) (hst2 : starEach [e2] X.env = (false, eval e2 X.env) :: starEach [] X.env := by rfl) (hpl : (backTo pos (starEach [e2] X.env)).any (·.1) = false := by rfl) :
    E2 X (ZX X.K p C fs) (.Call (.Name "isinstance" q) [e, e2] [] pos) (jIsE p.1 ob ta) := by
  refine pe_imp (pe_callB (call_isX hp EC hc hf) hg hm bb_isinstance (pa_cons he (pa_cons he2 pa_nil hst2) hst) (by decide) (by decide) hst hpl) fun σ H Q h => ?_
  obtain ⟨F, δ, μ, Q0, m, h, k⟩ := h
  refine ⟨F, δ, μ, _, m, h, ?_⟩
  rintro d μ1 F1 H1 v ⟨rfl, b, hb, q1⟩ g1 w1 r1
  cases r1
  obtain ⟨_, _, _, dd, vs, e3, e4, e5⟩ := (ZX X.K p C fs).up m.z g1
  exact ⟨c, cv, b, dd, vs, rfl, hcv, hob b hb, e3, w1.sub _ _ e4, k _ _ _ _ _ q1 g1 w1 .bl⟩
/-- e.f -/
def jXf (a : Addr) (fs : List (Str × D)) (f : Str) (ta : TE2) : TE2 := fun δ μ Q => ta δ μ fun x μ1 => x = .ref a ∧ ∃ d, fs.lookup f = some d ∧ Q d μ1
theorem jxf {ta : TE2} {e : Expr} {pos : Pos} {n : Str} (hp : p ∈ X.pn) (T : XfC X.K (He.ga X.K C)) (hno : PySem.W.findIn X.K (.ref (He.ga X.K C)) n = some none) (hc : p.2.cls = .ref (He.ga X.K C)) (hf : ∃ vs, p.2.data = .fields vs) (he : E2 X (ZX X.K p C fs) e ta)
    (hb : attributeBase e n X.env (eval e X.env) = eval e X.env := by rfl) : E2 X (ZX X.K p C fs) (.Attribute e n pos) (jXf p.1 fs n ta) := by
  refine pe_imp (pe_xfX hp T hno hc hf he hb) fun σ H Q h => ?_
  obtain ⟨F, δ, μ, Q0, m, h, k⟩ := h
  refine ⟨F, δ, μ, _, m, h, ?_⟩
  rintro d μ1 F1 H1 v ⟨rfl, d2, hl, q1⟩ g1 w1 r1
  cases r1
  obtain ⟨_, _, _, dd, vs, e3, e4, e5⟩ := (ZX X.K p C fs).up m.z g1
  obtain ⟨v2, l2, r2⟩ := (RepF.look n e5).1 d2 hl
  exact ⟨rfl, dd, vs, v2, e3, w1.sub _ _ e4, l2, k _ _ _ _ _ q1 g1 w1 r2⟩
end
/-! ### promises of defs that ask the handled error -/
abbrev SpX := Str → List (Str × D) → Addr → Sp2
def lowSpX (K : PySem.W.Frag) (sp : SpX) (p : Addr × Obj) : Sp := fun vs H Q E => ∃ F μ ds Q0 ex C fs, Wd K F H μ ∧ Reps K F vs ds ∧ PinX K p C fs F ∧ sp C fs p.1 ds μ Q0 ex ∧ (∀ d μ' F' H' v, Q0 d μ' → Gr F H μ F' H' μ' → Wd K F' H' μ' → Rep K F' v d → Q v H') ∧ ZE K ex E F H μ
def jCallX (sp : SpX) (C : Str) (fs : List (Str × D)) (a : Addr) (t : TA2) : TE2 := fun δ μ Q => t δ μ fun ds μ1 => sp C fs a ds μ1 (Upd Q) noEx
section
variable {X : Cx} {k : Nat} {f : Addr} {fd : FuncData} {ps : List Str} {sp : SpX} {x : Str} {q pos : Pos} {e : Expr} {es : List Expr} {t : TA2} {p : Addr × Obj} {C : Str} {fs : List (Str × D)}
theorem jcallX (F : FnX X.prog X.w X.K X.mg X.base CX0 k f fd ps (lowSpX X.K sp)) (hr : RoomH k X.A) (hot : Hot1 X.A p) (hp : p ∈ X.pn) (hg : Gl X x) (hm : X.mg x = some (.ref f)) (hk : PySem.W.keepIn X.K (.ref f) = true) (hb : Binds X.K fd ps [])
    (ha : A2 X (ZX X.K p C fs) (e :: es) t) (hdb : (x == ("__debug__" : Str)) = false := by decide) (he : starEach (e :: es) X.env = (false, eval e X.env) :: starEach es X.env := by rfl) (hpl : (backTo pos (starEach es X.env)).any (·.1) = false := by rfl) :
    E2 X (ZX X.K p C fs) (.Call (.Name x q) (e :: es) [] pos) (jCallX sp C fs p.1 t) := by
  refine pe_imp (pe_callX (E := fun _ _ _ _ => False) F hr hot hp hg hm hk hb (fun _ _ _ _ _ _ _ h => h.elim) ha hdb he hpl) fun σ H Q h => ?_
  obtain ⟨F, δ, μ, Q0, m, h, k⟩ := h
  refine ⟨F, δ, μ, _, m, h, ?_⟩
  intro as μ1 F1 H1 vs q1 g1 w1 r1
  refine ⟨F1, μ1, as, _, noEx, C, fs, w1, r1, (ZX X.K p C fs).up m.z g1, q1, ?_, ZE.none⟩
  intro d μ2 F2 H2 v q2 g2 w2 r2
  obtain ⟨F3, d3, μ3, g3, w3, r3, q3⟩ := q2 X.K F2 H2 v w2 r2
  exact k d3 μ3 F3 H2 v q3 ((g1.trans g2).trans g3) w3 r3
end
theorem fnokX {P : Program} {w : World} {K : PySem.W.Frag} {mg : Str → Option Value} {base : Heap} {x qual : Str} {params : Arguments} {body : List Stmt} {scope : Scope} {f : Addr} {fd : FuncData} {N ps : List Str} {k : Nat} {sp : SpX} {t : Str → List (Str × D) → Addr → TS2} {dvs : List V} {kws : List (Str × V)} (F : FunD K x qual params body scope dvs kws f fd) (S : FnScope N ps scope)
    (len : ∀ C fs a ds μ Q ex, sp C fs a ds μ Q ex → ds.length = ps.length)
    (hbody : ∀ (cdv : Value) (A : Around) (outer : List Env) (s : Shared) (H : Hp) (E : XK) (p : Addr × Obj) (C : Str) (fs : List (Str × D)), Hot1 A p → ClsX K (He.ga K C) → p.2.cls = .ref (He.ga K C) → (∃ vs, p.2.data = .fields vs) → RoomH k (A.deeper (envOfC qual scope s.heap.objs.size f cdv)) →
      B2 (cxH CX0 P w K mg base N qual scope f cdv A outer s H E p).nox (ZX K p C fs) body (t C fs p.1))
    (hpure : ∀ C fs a ds μ Q ex, sp C fs a ds μ Q ex → t C fs a (ends Q) (startD N ds) μ) : FnX P w K mg base CX0 (k + 1) f fd ps (lowSpX K sp) := by
  refine FunD.okX F S (fun p vs H Q E h => ?_) (fun cdv A outer s H vs Q E p hot hr h => ?_)
  · obtain ⟨F, μ, ds, Q0, ex, C, fs, _, r, _, q, _⟩ := h
    rw [r.length]
    exact len _ _ _ _ _ _ _ q
  · obtain ⟨F1, μ, ds, Q0, ex, C, fs, wd, r, hp, q, kk, _⟩ := h
    exact ⟨_, (hbody cdv A outer s H E p C fs hot hp.1 hp.2.1 hp.2.2.1 hr).nox, low_body (X := cxH CX0 P w K mg base N qual scope f cdv A outer s H E p) (Z := ZX K p C fs) wd r hp (hpure C fs p.1 ds μ Q0 ex q) kk⟩

/-! ### raise -/
/-- a step of the proof's own where an error flies -/
def UpdE (ex : Ex2) : Ex2 := fun C fs μ => ∀ (K : PySem.W.Frag) F H vs, Wd K F H μ → RepF K F vs fs → ∃ F' fs' μ', Gr F H μ F' H μ' ∧ Wd K F' H μ' ∧ RepF K F' vs fs' ∧ ex C fs' μ'
theorem UpdE.of {ex : Ex2} {C : Str} {fs : List (Str × D)} {μ : Mu} (q : ex C fs μ) : UpdE ex C fs μ := fun _ F _ _ w r => ⟨F, fs, μ, .refl, w, r, q⟩
theorem UpdE.drop {ex : Ex2} {C : Str} {fs : List (Str × D)} {μ μ' : Mu} (l : Le μ' μ) (q : ex C fs μ') : UpdE ex C fs μ := fun K F H vs w r => by
  obtain ⟨w', g⟩ := w.drop l
  exact ⟨F, fs, μ', g, w', r, q⟩
/-- what an exception of the code asks: ex by the slots where it flew -/
def ZW (K : PySem.W.Frag) (ex : Sg → Ex2) (W : WX) : Zw := ⟨fun F H μ => ∀ δ' σ' C fs μ' F' H' dx vs, ex δ' C fs μ' → Gr F H μ F' H' μ' → Wd K F' H' μ' → RepE K F' σ' δ' → H' dx = some (.xd vs) → F' dx = none → NewX F H μ dx → RepF K F' vs fs → W (.ref (He.ga K C)) (some dx) σ' H',
  fun h g δ' σ' C fs μ' F' H' dx vs a b c d e f n i => h δ' σ' C fs μ' F' H' dx vs a (g.trans b) c d e f (n.of g) i⟩
/-- the attributes of a new error -/
def xAttrs (code : Str) (fl : List Str) (ds : List D) : List (Str × D) := (fl.zip ds).reverse ++ [(("code" : Str), D.str code)]
theorem repF_app {K : PySem.W.Frag} {F : Hp} : ∀ {a : List (Str × V)} {b : List (Str × D)} {c : List (Str × V)} {d : List (Str × D)}, RepF K F a b → RepF K F c d → RepF K F (a ++ c) (b ++ d)
  | _, _, _, _, .nil, h => h
  | _, _, _, _, .cons r t, h => .cons r (repF_app t h)
theorem repF_zip {K : PySem.W.Frag} {F : Hp} : ∀ (fl : List Str) {ws : List V} {ds : List D}, Reps K F ws ds → RepF K F (fl.zip ws).reverse (fl.zip ds).reverse
  | [], _, _, _ => by simp; exact .nil
  | _ :: _, _, _, .nil => by simp; exact .nil
  | f :: fl, _, _, .cons r t => by
    rw [List.zip_cons_cons, List.zip_cons_cons, List.reverse_cons, List.reverse_cons]
    exact repF_app (repF_zip fl t) (.cons r .nil)
theorem repF_x {K : PySem.W.Frag} {F : Hp} {code : Str} {fl : List Str} {ws : List V} {ds : List D} (r : Reps K F ws ds) : RepF K F (xFields code fl ws) (xAttrs code fl ds) := repF_app (repF_zip fl r) (.cons .str .nil)
/-- a new object that is not told -/
theorem Wd.aside {K : PySem.W.Frag} {F H : Hp} {μ : Mu} {p : Addr} {o : HO} (w : Wd K F H μ) (hp : H p = none) : Wd K F (upd H p o) μ ∧ Gr F H μ F (upd H p o) μ ∧ F p = none := by
  have fp : F p = none := by
    cases h : F p with
    | none => rfl
    | some u => rw [w.sub p u h] at hp; cases hp
  refine ⟨⟨fun b u e => by rw [upd_ne (ne_of_none e fp)]; exact w.sub b u e, fun a u e => ?_⟩, ⟨Same.refl _, fun b u h1 h2 h3 => ?_⟩, fp⟩
  · obtain ⟨h1, ho, h2, h3⟩ := w.mts a u e
    exact ⟨h1, ho, by rw [upd_ne (ne_of_none h2 hp)]; exact h2, h3⟩
  · exact ⟨by rw [upd_ne (ne_of_none h1 hp)]; exact h1, h2, h3⟩
/-- what is there becomes settled -/
theorem Wd.settled {K : PySem.W.Frag} {F H : Hp} {μ : Mu} {p : Addr} {o : HO} (w : Wd K F H μ) (hp : H p = some o) (fp : F p = none) (mp : μ p = none) : Wd K (upd F p o) H μ ∧ Same F (upd F p o) := by
  have ff : Same F (upd F p o) := fun b u e => by rw [upd_ne (ne_of_none e fp)]; exact e
  refine ⟨⟨fun b u e => ?_, fun a u e => ?_⟩, ff⟩
  · by_cases hb : b = p
    · subst hb; rw [upd_same] at e; rw [hp]; exact e
    · rw [upd_ne hb] at e; exact w.sub b u e
  · obtain ⟨h1, ho, h2, h3⟩ := w.mts a u e
    have ha : a ≠ p := fun z => by rw [z, mp] at e; cases e
    exact ⟨by rw [upd_ne ha]; exact h1, ho, h2, h3.mono ff⟩
def jRaise (ex : Sg → Ex2) (C code : Str) (fl : List Str) (t : TA2) : TS2 := fun D δ μ => t δ μ fun ds μ1 => ds.length = fl.length ∧ UpdE (ex δ) C (xAttrs code fl ds) μ1
section
variable {X : Cx} {ex : Sg → Ex2} {W : WX} {C code x : Str} {fl : List Str} {e : Expr} {es : List Expr} {t : TA2} {p pos pos2 : Pos}
theorem js_raise (hc : X.calm = true) (tk : L2N.Takes X W) (T : ErrOk X.prog X.w X.K X.mg X.base (He.ga X.K C) code fl) (hfl : fl.length ≤ 1000) (hr : Room 3 X.A) (hg : Gl X x) (hm : X.mg x = some (.ref (He.ga X.K C))) (ha : A2 X (ZW X.K ex W) (e :: es) t)
    (hdb : (x == ("__debug__" : Str)) = false := by decide) (he : starEach (e :: es) X.env = (false, eval e X.env) :: starEach es X.env := by rfl) (hpl : (backTo pos (starEach es X.env)).any (·.1) = false := by rfl) :
    S2 X (ZW X.K ex W) (.Raise (some (.Call (.Name x p) (e :: es) [] pos)) none pos2) (jRaise ex C code fl t) := by
  refine ps_imp (L2N.ps_raise hc tk (pmkX T hr hg hm ha hdb he hpl)) ?_
  rintro D σ H ⟨F, δ, μ, D2, m, h, _⟩
  refine ⟨F, δ, μ, _, m, h, ?_⟩
  rintro ds μ1 F1 H1 vs ⟨hl, q1⟩ g1 w1 r1
  refine ⟨by rw [r1.length]; exact hl, by rw [r1.length, hl]; exact hfl, fun d hd => ?_⟩
  obtain ⟨F2, fs2, μ2, g2, w2, rf, q2⟩ := q1 X.K F1 H1 _ w1 (repF_x (code := code) (fl := fl) r1)
  obtain ⟨w3, g3, fd⟩ := w2.aside (o := .xd (xFields code fl vs)) hd
  exact m.z δ σ C fs2 μ2 F2 _ d _ q2 ((g1.trans g2).trans g3) w3 (m.env.mono (g1.trans g2).ff) upd_same fd (NewX.of g1 fun o h1 _ _ => by rw [hd] at h1; cases h1) rf
theorem js_raise0 (hc : X.calm = true) (tk : L2N.Takes X W) (T : ErrOk X.prog X.w X.K X.mg X.base (He.ga X.K C) code []) (hr : Room 3 X.A) (hg : Gl X x) (hm : X.mg x = some (.ref (He.ga X.K C))) (hdb : (x == ("__debug__" : Str)) = false := by decide) :
    S2 X (ZW X.K ex W) (.Raise (some (.Call (.Name x p) [] [] pos)) none pos2) (jRaise ex C code [] jNil) := by
  refine ps_imp (L2N.ps_raise hc tk (pmkX0 T hr hg hm hdb)) ?_
  rintro D σ H ⟨F, δ, μ, D2, m, ⟨_, q1⟩, _⟩
  refine ⟨rfl, Nat.zero_le _, fun d hd => ?_⟩
  obtain ⟨F2, fs2, μ2, g2, w2, rf, q2⟩ := q1 X.K F H _ m.wd (repF_x (code := code) (fl := []) .nil)
  obtain ⟨w3, g3, fd⟩ := w2.aside (o := .xd (xFields code [] [])) hd
  exact m.z δ σ C fs2 μ2 F2 _ d _ q2 (g2.trans g3) w3 (m.env.mono g2.ff) upd_same fd (fun o h1 _ _ => by rw [hd] at h1; cases h1) rf
end
/-! ### calls that may raise -/
def jCallS (sp : Sp2) (ex : Sg → Ex2) (t : TA2) : TE2 := fun δ μ Q => t δ μ fun ds μ1 => sp ds μ1 (Upd Q) (ex δ)
section
variable {X : Cx} {ex : Sg → Ex2} {W : WX} {k : Nat} {f : Addr} {fd : FuncData} {ps : List Str} {sp : Sp2} {x : Str} {q pos : Pos} {e : Expr} {es : List Expr} {t : TA2}
theorem jcallS (F : FnOk X.prog X.w X.K X.mg X.base (L2N.CX X.prog X.w) k f fd ps (lowSp X.K sp)) (tk : L2N.Takes X W) (hr : Room k X.A) (hg : Gl X x) (hm : X.mg x = some (.ref f)) (hk : PySem.W.keepIn X.K (.ref f) = true) (hb : Binds X.K fd ps [])
    (ha : A2 X (ZW X.K ex W) (e :: es) t) (hdb : (x == ("__debug__" : Str)) = false := by decide) (he : starEach (e :: es) X.env = (false, eval e X.env) :: starEach es X.env := by rfl) (hpl : (backTo pos (starEach es X.env)).any (·.1) = false := by rfl) :
    E2 X (ZW X.K ex W) (.Call (.Name x q) (e :: es) [] pos) (jCallS sp ex t) := by
  refine pe_imp (pe_callS (E := WE W) F hr hg hm hk hb (L2N.passAt tk) ha hdb he hpl) fun σ H Q h => ?_
  obtain ⟨F, δ, μ, Q0, m, h, k⟩ := h
  refine ⟨F, δ, μ, _, m, h, ?_⟩
  intro as μ1 F1 H1 vs q1 g1 w1 r1
  refine ⟨F1, μ1, as, _, ex δ, w1, r1, q1, ?_, ?_⟩
  · intro d μ2 F2 H2 v q2 g2 w2 r2
    obtain ⟨F3, d3, μ3, g3, w3, r3, q3⟩ := q2 X.K F2 H2 v w2 r2
    exact k d3 μ3 F3 H2 v q3 ((g1.trans g2).trans g3) w3 r3
  · intro C fs μ' F' H' dx vs e' g' w' hd hf n r
    exact m.z δ σ C fs μ' F' H' dx vs e' (g1.trans g') w' (m.env.mono (g1.trans g').ff) hd hf (n.of g1) r
end
/-- THE RULE for a def that may raise -/
theorem fnokR {P : Program} {w : World} {K : PySem.W.Frag} {mg : Str → Option Value} {base : Heap} {x qual : Str} {params : Arguments} {body : List Stmt} {scope : Scope} {f : Addr} {fd : FuncData} {N ps : List Str} {k : Nat} {sp : Sp2} {t : (Sg → Ex2) → TS2} {dvs : List V} {kws : List (Str × V)} (F : FunD K x qual params body scope dvs kws f fd) (S : FnScope N ps scope)
    (len : ∀ ds μ Q ex, sp ds μ Q ex → ds.length = ps.length)
    (hbody : ∀ (cdv : Value) (A : Around) (outer : List Env) (s : Shared) (H : Hp) (E : XK) (ex : Sg → Ex2) (W : WX), Room k (A.deeper (envOfC qual scope s.heap.objs.size f cdv)) → L2N.Takes (cxOf (L2N.CX P w) P w K mg base N qual scope f cdv A outer s H E) W →
      PassesOwn (model P w) (A.deeper (envOfC qual scope s.heap.objs.size f cdv)) (envOfC qual scope s.heap.objs.size f cdv) (cxOf (L2N.CX P w) P w K mg base N qual scope f cdv A outer s H E).xe →
      B2 (cxOf (L2N.CX P w) P w K mg base N qual scope f cdv A outer s H E) (ZW K ex W) body (t ex))
    (hpure : ∀ ds μ Q ex, sp ds μ Q ex → t (fun _ => ex) (ends Q) (startD N ds) μ) : FnOk P w K mg base (L2N.CX P w) (k + 1) f fd ps (lowSp K sp) := by
  refine F.ok S (fun vs H Q E h => ?_) (fun cdv A outer s H vs Q E hr h => ?_)
  · obtain ⟨F, μ, ds, Q0, ex, _, r, q, _⟩ := h
    rw [r.length]
    exact len _ _ _ _ q
  · obtain ⟨F1, μ, ds, Q0, ex, wd, r, q, kk, hz⟩ := h
    refine ⟨_, hbody cdv A outer s H E (fun _ => ex) (fun cls d _ H => E cls d H) hr (L2N.takes_of rfl rfl rfl rfl) (passes_of (K := fun e s'' => L2N.CX P w outer H s E e s'') (E₁ := fun e' s'' => L2N.CX P w outer H s E e' s'') rfl), ?_⟩
    refine low_body (X := cxOf (L2N.CX P w) P w K mg base N qual scope f cdv A outer s H E) (Z := ZW K (fun _ => ex) (fun cls d _ H => E cls d H)) wd r ?_ (hpure ds μ Q0 ex q) kk
    intro δ' σ' C fs μ' F' H' dx vs e' g' w' _ hd hf n r'
    exact hz C fs μ' F' H' dx vs e' g' w' hd hf n r'
/-! ### try -/
/-- try: body, except x as n: suite; m what the clause says of a class -/
def jTry (i : Nat) (m : Str → Option Bool) (tb : (Sg → Ex2) → TS2) (ts : Str → List (Str × D) → Addr → TS2) (ex : Sg → Ex2) : TS2 := fun D =>
  tb (fun δ' C fs μ' => ∃ b, m C = some b ∧ if b = true then ∀ a, μ' a = none → ts C fs a { nx := fun δ μ => D.nx (δ.set i none) μ, rt := D.rt, bk := fun δ μ => D.bk (δ.set i none) μ, ct := fun δ μ => D.ct (δ.set i none) μ } (δ'.set i (some (.ref a))) μ' else ex δ' C fs μ') D
section
variable {X : Cx} {Z : Zw} {x n : Str} {c : Value} {i : Nat} {body suite : List Stmt} {b₀ : Stmt} {np pos pos' : Pos} {m : Str → Option Bool} {tb : (Sg → Ex2) → TS2} {ts : Str → List (Str × D) → Addr → TS2} {ex : Sg → Ex2} {Wout : WX}
theorem js_try (hs : X.stack = X.env :: X.outer) (hf : X.env.frame = some X.env.locals) (hN : X.N.Nodup) (hi : X.N[i]? = some n) (hln : X.env.kindOf n = some .local) (hc : Names X x c) (tk : L2N.Takes X Wout) (hz : ∀ F H μ, Z.p F H μ → (ZW X.K ex Wout).p F H μ)
    (hm : ∀ C b, m C = some b → PySem.W.exmOne X.K (.ref (He.ga X.K C)) c = some b)
    (hcl : ∀ C b, m C = some b → ClsX X.K (He.ga X.K C))
    (hb : ∀ (W : WX) (ex' : Sg → Ex2) (pn : List (Addr × Obj)) (xe : Value → Shared → Prop), L2N.Takes (X.tr pn xe) W → PassesOwn (model X.prog X.w) X.A X.env xe → B2 (X.tr pn xe) (ZW X.K ex' W) body (tb ex'))
    (hsu : ∀ (p : Addr × Obj) (C : Str) (fs : List (Str × D)) (pn : List (Addr × Obj)), Hot1 (X.A.mark (some (.ref p.1))) p → ClsX X.K (He.ga X.K C) → p.2.cls = .ref (He.ga X.K C) → (∃ vs, p.2.data = .fields vs) → B2 (X.suite p.1 (p :: pn)) (ZX X.K p C fs) (b₀ :: suite) (ts C fs p.1)) :
    S2 X Z (.Try body [.ExceptHandler (some (.Name x np)) (some n) (b₀ :: suite) pos'] [] [] pos) (jTry i m tb ts ex) := by
  have main := L2N.ps_try_as (X := X) (body := body) (suite := suite) (b₀ := b₀) (np := np) (pos := pos) (pos' := pos')
    (tb := fun W D σ H => ∃ ex', (lowS X.K (ZW X.K ex' W) (tb ex')) D σ H)
    (ts := fun a cls d D σ H => ∀ oe : Obj, L2N.Zn cls d oe → (∃ vs, oe.data = .fields vs) → ∃ C fs, cls = .ref (He.ga X.K C) ∧ ClsX X.K (He.ga X.K C) ∧ (lowS X.K (ZX X.K (a, oe) C fs) (ts C fs a)) D σ H)
    hs hf hN hi hln hc tk (fun W pn xe t1 t2 => ⟨fun pins s σ H D I ⟨ex', h⟩ => (hb W ex' pn xe t1 t2).run pins s σ H D I h⟩)
    (fun a oe cls d pn hz1 hf1 => ⟨fun pins s σ H D I h => by
      obtain ⟨C, fs, hcl, hcx, h⟩ := h oe hz1 hf1
      obtain ⟨vs, hv⟩ := hf1
      exact (hsu (a, oe) C fs pn ⟨rfl, vs, hv, hz1.2.2 vs hv⟩ hcx (hz1.1.trans hcl) ⟨vs, hv⟩).run pins s σ H D I h⟩)
  refine ps_imp main ?_
  rintro D σ H ⟨F, δ, μ, D2, mt, h, e⟩
  refine ⟨_, F, δ, μ, D2, ⟨mt.wd, mt.env, ?_⟩, h, ⟨fun δ' μ' F' σ' H' a g' m' => e.nx δ' μ' F' σ' H' a g' ⟨m'.wd, m'.env, Z.up mt.z g'⟩, e.rt, fun δ' μ' F' σ' H' a g' m' => e.bk δ' μ' F' σ' H' a g' ⟨m'.wd, m'.env, Z.up mt.z g'⟩, fun δ' μ' F' σ' H' a g' m' => e.ct δ' μ' F' σ' H' a g' ⟨m'.wd, m'.env, Z.up mt.z g'⟩⟩⟩
  rintro δ1 σ1 C fs μ1 F1 H1 dx vs ⟨b, hb1, hq⟩ g1 w1 r1 hd hf1 nx rf
  refine ⟨b, hm C b hb1, fun hbt a ha oe hzn hfl => ?_, fun hbf => ?_⟩
  · rw [if_pos hbt] at hq
    have mdx : μ1 dx = none := by
      cases q : μ1 dx with
      | none => rfl
      | some u =>
        obtain ⟨_, ho, e2, e3⟩ := w1.mts _ _ q
        rw [hd] at e2
        cases e2
        cases e3
    obtain ⟨w2, ff⟩ := w1.settled hd hf1 mdx
    have ma : μ1 a = none := by
      cases q : μ1 a with
      | none => rfl
      | some u =>
        obtain ⟨_, ho, e2, _⟩ := w1.mts _ _ q
        rw [ha] at e2; cases e2
    have fa : F1 a = none := by
      cases q : F1 a with
      | none => rfl
      | some u => rw [w1.sub _ _ q] at ha; cases ha
    have g2 : Gr F H μ (upd F1 dx (.xd vs)) H1 μ1 := ⟨g1.ff.trans ff, fun b o h1 h2 h3 => by
      obtain ⟨x1, x2, x3⟩ := g1.fr b o h1 h2 h3
      refine ⟨x1, ?_, x3⟩
      have hb : b ≠ dx := fun z => by
        rw [z] at h1 h2 h3
        exact nx o h1 h2 h3
      rw [upd_ne hb]
      exact x2⟩
    refine ⟨C, fs, rfl, hcl C b hb1, upd F1 dx (.xd vs), _, μ1, _, ⟨w2, (r1.mono ff).set .ref i, ⟨hcl C b hb1, hzn.1, hfl, dx, vs, hzn.2.1, upd_same, rf.mono ff⟩⟩, hq a ma, ?_⟩
    have e2 := e.step g2
    exact ⟨fun δ' μ' F' σ' H' q g' m' => e2.nx _ μ' F' _ H' q g' ⟨m'.wd, m'.env.wipe1 i, Z.up mt.z (g2.trans g')⟩, e2.rt, fun δ' μ' F' σ' H' q g' m' => e2.bk _ μ' F' _ H' q g' ⟨m'.wd, m'.env.wipe1 i, Z.up mt.z (g2.trans g')⟩, fun δ' μ' F' σ' H' q g' m' => e2.ct _ μ' F' _ H' q g' ⟨m'.wd, m'.env.wipe1 i, Z.up mt.z (g2.trans g')⟩⟩
  · subst hbf
    rw [if_neg Bool.false_ne_true] at hq
    exact hz _ _ _ mt.z δ1 σ1 C fs μ1 F1 H1 dx vs hq g1 w1 r1 hd hf1 nx rf
end
end J

/-! J18: list.index over data; what the top leaves of error classes. -/
namespace J
open PySem PySem.Spec PyProof.Rows L2 NdefX

/-! ### list.index -/
def index1 : OM := fun x ds μ Q => ∃ y xs dy j z, ds = [y] ∧ Vw μ x (.lst xs) ∧ Vw μ y dy ∧ (D.lst xs).pl = true ∧ dy.pl = true ∧ SeqAt.shaped (D.lst xs).py = true ∧ SeqAt.shaped dy.py = true ∧ xs[j]? = some z ∧ PyData.eqv z.py dy.py = true ∧ (∀ (m : Nat) (z' : D), m < j → xs[m]? = some z' → PyData.eqv z'.py dy.py = false) ∧ Q (.int (j : Nat)) μ
theorem pys_get : ∀ {xs : List D} {j : Nat}, (D.pys xs)[j]? = xs[j]?.map D.py
  | [], _ => by rw [D.pys]; simp
  | x :: xs, 0 => by rw [D.pys]; simp
  | x :: xs, j + 1 => by rw [D.pys]; simpa using pys_get (xs := xs) (j := j)
theorem mindex {X : Cx} (hu : X.A.units + 65 < cLine) : MtR X "list.index" (lowOM X.K index1) := by
  rintro pins s σ H x xs v us Q I rx r ⟨F, μ, d, ds, Q0, w, r1, rs, q, k⟩
  obtain ⟨y, ys, dy, j, z, rfl, v1, v2, p1, p2, s1, s2, hz, he, hno, q⟩ := q
  obtain ⟨yv, rfl, ry⟩ := rs.one
  have dx := vw_dp w r1 v1 p1
  have hy := vw_dp w ry v2 p2
  rw [D.py] at dx s1
  obtain ⟨a, ea⟩ : ∃ a, x = V.ref a := by
    cases dx with
    | lst _ _ => exact ⟨_, rfl⟩
  subst ea
  refine mt_indexD hu pins s σ H _ _ v us Q I rx r ⟨a, yv, dy.py, D.pys ys, j, z.py, rfl, rfl, dx, hy, s1, s2, ?_, he, fun m z' hm h => ?_, k _ _ _ _ _ q .refl w .int⟩
  · rw [pys_get, hz]; rfl
  · rw [pys_get] at h
    cases e : ys[m]? with
    | none => rw [e] at h; cases h
    | some z2 =>
      rw [e] at h
      cases h
      exact hno m z2 hm e

/-! ### what the top leaves -/
/-- the class at C is an error class over ValueError with an __init__ of its own -/
def oexB (K : PySem.W.Frag) (C : Addr) : Bool := (match K.lookup C with
  | some ⟨.type "type", _, .cls cd, sl⟩ => (match cd.mro, sl.toList with
    | .ref C' :: bm, [_, _, _, _, some (.builtin n), _] => C' == C && n == "ValueError.__new__" && !cd.hasDel && cd.hasDict && PySem.HandSPX.refsVE bm
    | _, _ => false)
  | _ => false) && (decide (PySem.W.findIn K (.ref C) "__setattr__" = some (some (.builtin "object.__setattr__"))) && (decide (PySem.W.subIn K (.ref C) (.type "BaseException") = some true) && (decide (PySem.W.typeIn K (.ref C) = some (.type "type")) && PySem.W.keepIn K (.ref C))))
theorem oexB_ok {K : PySem.W.Frag} {C : Addr} (h : oexB K C = true) : OexC K C := by
  obtain ⟨q, h⟩ := He.ba h
  obtain ⟨h1, h⟩ := He.ba h
  obtain ⟨h2, h⟩ := He.ba h
  obtain ⟨h3, h4⟩ := He.ba h
  refine ⟨?_, of_decide_eq_true h1, of_decide_eq_true h2, of_decide_eq_true h3, h4⟩
  split at q
  · rename_i dd cd sl ho
    split at q
    · rename_i C' bm k0 k1 k2 k3 n k5 hm hs
      simp only [Bool.and_eq_true, beq_iff_eq, Bool.not_eq_true'] at q
      obtain ⟨⟨⟨⟨rfl, rfl⟩, hdel⟩, hdct⟩, ht⟩ := q
      obtain ⟨nm, bs, mro, ns, qn, hd, sn, sub, ab, col, del⟩ := cd
      dsimp only at hm hdel hdct
      subst hm hdel hdct
      have hsl : sl = #[k0, k1, k2, k3, some (.builtin "ValueError.__new__"), k5] := by
        obtain ⟨l⟩ := sl
        simp only at hs
        rw [hs]
      subst hsl
      exact ⟨nm, qn, ns, bs, bm, sn, sub, ab, col, dd, k0, k1, k2, k3, k5, ho, ht⟩
    · cases q
  · cases q
/-- an __init__ of an error class that says super().__init__(..): where it stands (its class's name), its words -/
structure SupW where
  x : Str
  name : Str
  qual : Str
  params : Arguments
  body : List Stmt
  scope : Scope
abbrev SupV : Type := Option (Str × Str × Arguments × FuncBody × Scope × Addr × Addr)
def supAt (K : PySem.W.Frag) (x : Str) : Addr := He.ma K (He.ga K x) "__init__"
def supV (K : PySem.W.Frag) (x : Str) : SupV := match K.lookup (supAt K x) with
  | some ⟨_, _, .func fd, _⟩ => some (fd.name, fd.qualname, fd.params, fd.body, fd.scope, fd.globals, fd.builtins)
  | _ => none
def SupW.val (d : SupW) : SupV := some (d.name, d.qual, d.params, .stmts d.body, d.scope, mainGlobals, builtinsNs)
def supCl (K : PySem.W.Frag) (x : Str) : List (Str × Addr) := match K.lookup (supAt K x) with
  | some ⟨_, _, .func fd, _⟩ => fd.closure
  | _ => []
def supC (K : PySem.W.Frag) (x : Str) : Addr := match K.lookup (supAt K x) with
  | some ⟨_, _, .func fd, _⟩ => (match fd.code with
    | .ref c => c
    | _ => 0)
  | _ => 0
abbrev supNF (K : PySem.W.Frag) (d : SupW) : NF := ⟨d.name, d.qual, d.params, d.body, d.scope, supCl K d.x, supC K d.x⟩
def codeB (K : PySem.W.Frag) (file : Str) (c : Addr) : Bool := match K.lookup c with
  | some ⟨_, _, .fields vs, _⟩ => (match (vs[2]? : Option Value) with
    | some (Value.str f _) => file == f
    | _ => false)
  | _ => false
def cellB (K : PySem.W.Frag) (D : Addr) (cl : List (Str × Addr)) : Bool := match cl with
  | [(n, cc)] => n == ("__class__" : Str) && (match K.lookup cc with
    | some ⟨_, _, .cell (some (.ref D')), _⟩ => D' == D
    | _ => false)
  | _ => false
/-- base: the name of the class whose __init__ is called -/
def supB (K : PySem.W.Frag) (file : Str) (base : Str) (d : SupW) : Bool := (match K.lookup (supAt K d.x) with
  | some ⟨_, _, .func fd, _⟩ => (match fd.code with
    | .ref c => PySem.W.codeIn K (.ref c) d.qual && codeB K file c
    | _ => false) && (cellB K (He.ga K d.x) fd.closure && (fd.defaults == .none && (fd.kwdefaults == .none && fd.annotations == none)))
  | _ => false) && ((PySem.W.clsIn K (He.ga K d.x)).isSome && (decide (PySem.W.ks_superIn K (He.ga K d.x) (He.ga K d.x) "__init__" = some (some (.ref (supAt K base)))) && (PySem.W.fnIn K (supAt K base) && (decide (PySem.W.typeIn K (.ref (supAt K base)) = some (.type "function")) &&
  (decide (PySem.W.mroIn K (He.ga K d.x) (.ref (He.ga K d.x)) = some true) && decide (PySem.W.nsIn K cStatics "thirdparty.any" = some none))))))
theorem supB_ok {P : Program} {K : PySem.W.Frag} {base : Str} {d : SupW} (e : supV K d.x = d.val) (h : supB K P.main.file base d = true) : ∃ fd, SupD P K (supNF K d) fd (supAt K d.x) (He.ga K d.x) (supAt K base) := by
  obtain ⟨q, h⟩ := He.ba h
  obtain ⟨h1, h⟩ := He.ba h
  obtain ⟨h2, h⟩ := He.ba h
  obtain ⟨h3, h⟩ := He.ba h
  obtain ⟨h4, h⟩ := He.ba h
  obtain ⟨h5, h6⟩ := He.ba h
  unfold supV at e
  have eCl : ∀ oc od fd osl, K.lookup (supAt K d.x) = some ⟨oc, od, .func fd, osl⟩ → supCl K d.x = fd.closure := fun oc od fd osl lk => by
    unfold supCl
    rw [lk]
  have eC : ∀ oc od fd osl c, K.lookup (supAt K d.x) = some ⟨oc, od, .func fd, osl⟩ → fd.code = .ref c → supC K d.x = c := fun oc od fd osl c lk h => by
    unfold supC
    rw [lk]
    simp only [h]
  cases lk : K.lookup (supAt K d.x) with
  | none =>
    rw [lk] at q
    cases q
  | some o =>
    obtain ⟨oc, od, dt, osl⟩ := o
    rw [lk] at q e
    cases dt with
    | func fd =>
      obtain ⟨n1, n2, n3, n4, n5, n6, n7, n8, n9, n10, n11, n12, n13, n14, n15⟩ := fd
      have e2 : (some (n1, n2, n3, n4, n5, n6, n15) : SupV) = some (d.name, d.qual, d.params, .stmts d.body, d.scope, mainGlobals, builtinsNs) := e
      simp only [Option.some.injEq, Prod.mk.injEq] at e2
      obtain ⟨z1, z2, z3, z4, z5, z6, z7⟩ := e2
      subst z1 z2 z3 z4 z5 z6 z7
      cases n13 with
      | ref c =>
        obtain ⟨q1, q⟩ := He.ba (show ((PySem.W.codeIn K (.ref c) d.qual && codeB K P.main.file c) && (cellB K (He.ga K d.x) n7 && (n8 == .none && (n9 == .none && n12 == none)))) = true from q)
        obtain ⟨q2, q⟩ := He.ba q
        obtain ⟨q3, q⟩ := He.ba q
        obtain ⟨q4, q5⟩ := He.ba q
        have z8 : n8 = .none := beq_iff_eq.mp q3
        have z9 : n9 = .none := beq_iff_eq.mp q4
        have z12 : n12 = none := beq_iff_eq.mp q5
        subst z8 z9 z12
        obtain ⟨c1, c2⟩ := He.ba q1
        have e1 := eCl _ _ _ _ lk
        have e2 := eC _ _ _ _ c lk rfl
        have eN : supNF K d = ⟨d.name, d.qual, d.params, d.body, d.scope, n7, c⟩ := by
          show (⟨d.name, d.qual, d.params, d.body, d.scope, supCl K d.x, supC K d.x⟩ : NF) = _
          rw [e1, e2]
        rw [eN]
        refine ⟨_, ⟨⟨oc, od, osl, n10, n11, n14, rfl, lk⟩, c1, ?_, ?_, h1, of_decide_eq_true h2, h3, of_decide_eq_true h4, of_decide_eq_true h5, of_decide_eq_true h6⟩⟩
        · unfold codeB at c2
          split at c2
          · rename_i oc2 od2 vs osl2 lc
            split at c2
            · rename_i f tf hf
              exact ⟨oc2, od2, osl2, vs, f, tf, lc, hf, c2⟩
            · cases c2
          · cases c2
        · unfold cellB at q2
          split at q2
          · rename_i n cc _
            obtain ⟨y1, y2⟩ := He.ba q2
            split at y2
            · rename_i oc2 od2 D' osl2 lc
              have e1 : n = ("__class__" : Str) := beq_iff_eq.mp y1
              have e3 : D' = He.ga K d.x := beq_iff_eq.mp y2
              subst e1 e3
              exact ⟨cc, oc2, od2, osl2, rfl, lc⟩
            · cases y2
          · cases q2
      | _ =>
        obtain ⟨q1, _⟩ := He.ba q
        cases q1
    | _ => cases q
/-! ### the head's hook -/
abbrev AlX : Type := He.AlD × Bool × List SupV
def frX (n : Nat) (g : Addr → Option Obj) : PySem.W.Frag := He.frG g (cStatics :: He.asD g n)
def obsX (n : Nat) (fa : List He.Fa) (fn : List He.DefD) (ex : PySem.W.Frag → Bool) (su : List SupW) (g : Addr → Option Obj) : AlX := (He.obsD fa fn (frX n g), ex (frX n g), su.map fun d => supV (frX n g) d.x)
def hookX (n : Nat) (fa : List He.Fa) (fn : List He.DefD) (ex : PySem.W.Frag → Bool) (su : List SupW) : PySem.W.Hook where
  α := AlX
  obs := fun s => obsX n fa fn ex su s.heap.get?
  val := fun _ => (He.valD fn, true, su.map SupW.val)
  says := fun _ h => ∃ K : PySem.W.Frag, K.In h ∧ He.SaysD fa fn K ∧ ex K = true ∧ (su.map fun d => supV K d.x) = su.map SupW.val
  of := fun _ _ e => ⟨_, He.frG_in, congrArg (fun z : AlX => z.1) e, congrArg (fun z : AlX => z.2.1) e, congrArg (fun z : AlX => z.2.2) e⟩
  keeps := fun _ _ _ ⟨K, hK, c⟩ k => ⟨K, PySem.W.Frag.In.keeps hK k, c⟩
theorem obsX_eq {n : Nat} {fa : List He.Fa} {fn : List He.DefD} {ex : PySem.W.Frag → Bool} {su : List SupW} {g : Addr → Option Obj} {s : Shared} (h : ∀ a, g a = s.heap.get? a) : obsX n fa fn ex su g = (hookX n fa fn ex su).obs s := by
  have e : g = s.heap.get? := funext h
  rw [e] <;> rfl
theorem sup_at {K : PySem.W.Frag} {su : List SupW} (e : (su.map fun d => supV K d.x) = su.map SupW.val) (i : Nat) {d : SupW} (h : su[i]? = some d := by rfl) : supV K d.x = d.val := by
  have e2 : (su.map fun d => supV K d.x)[i]? = (su.map SupW.val)[i]? := by rw [e]
  rw [List.getElem?_map, List.getElem?_map, h] at e2
  exact Option.some.inj e2

theorem SupD.binds {P : Program} {K : PySem.W.Frag} {F : NF} {fd : FuncData} {f D f2 : Addr} {ps : List Str} (T : SupD P K F fd f D f2) (h : ∀ (doc pm ct : Value) (us : List Value), us.length = ps.length → bindArgs (F.fd doc pm ct) ⟨us, []⟩ = pure (ps.zip us)) : Binds K fd ps [] := by
  obtain ⟨oc, od, osl, doc, pm, ct, rfl, _⟩ := T.fn
  exact .all (h doc pm ct)
end J

/-! J19: small words of tries and of handled errors. -/
namespace J
open PySem PySem.Spec PyProof.Rows L2 L2H
theorem takes_none {X : Cx} : L2N.Takes X (fun _ _ _ _ => False) := fun _ _ ⟨_, _, _, _, _, _, _, _, _, _, _, _, _, _, _, _, w⟩ => w.elim
theorem zw_none {K : PySem.W.Frag} {W : WX} (F H : Hp) (μ : Mu) : (ZW K (fun _ => noEx) W).p F H μ := fun _ _ _ _ _ _ _ _ _ h => h.elim
section
variable {X : Cx} {Z : Zw}
theorem jix_list {l : Expr} {t : TE2} (hl : E2 X Z l t) : PIX X l (lowI X.K Z (iL t)) := by
  refine pix_imp (pix_list hl) ?_
  rintro σ H R ⟨F, δ, μ, Q0, m, q, k⟩
  refine ⟨F, δ, μ, _, m, q, ?_⟩
  rintro x μ1 F1 H1 v q1 g1 w1 r1
  unfold iSeq' at q1
  split at q1 <;> first | exact False.elim q1 | skip
  · rename_i xs
    obtain ⟨a, vs, rfl, ha, rs⟩ := seq_at w1 r1 SeqAt.f
    refine ⟨a, rfl, ⟨_, ha⟩, k _ _ _ _ _ _ q1 g1 w1 (itOk_list rs fun F' H' μ' ff w' _ => ?_)⟩
    cases r1 with
    | lst hq rq => exact ⟨_, SqL.of (w'.sub _ _ (ff _ _ hq)), rq.mono ff⟩
  · rename_i xs
    obtain ⟨a, vs, rfl, ha, rs⟩ := seq_at w1 r1 SeqAt.r
    refine ⟨a, rfl, ⟨_, ha⟩, k _ _ _ _ _ _ q1 g1 w1 (itOk_list rs fun F' H' μ' ff w' _ => ?_)⟩
    cases r1 with
    | rol hq rq => exact ⟨_, w'.sub.seq (ff.seq hq), rq.mono ff⟩
  · obtain ⟨xs, h, q1⟩ := q1
    cases r1
    obtain ⟨vs, h1, rs⟩ := mlst_at w1 h
    refine ⟨_, rfl, ⟨_, SqL.of h1⟩, k _ _ _ _ _ _ q1 g1 w1 (itOk_list rs fun F' H' μ' ff w' g => ?_)⟩
    obtain ⟨ws, h2, rs2⟩ := mlst_at w' g
    exact ⟨ws, SqL.of h2, rs2⟩
theorem jlcH {elt tg iter : Expr} {ifs : List Expr} {scope : Scope} {own : List (Str × Nat)} {pos : Pos} {ti : TI2} {g : TG} {g2 : TG2} {tt : TT2} {te : TE2} (hc : HotC X) (hN : X.N.Nodup) (hi : PIX X iter (lowI X.K Z ti)) (ok : BlkOk X.N X.env.scope scope own) (gw : GW X.K Z (own.map (·.2)) g g2)
    (hg : ∀ (s : Shared) (H : Hp) (C : Addr) (cl : List (Str × Addr)) (fp : List Addr), PG (X.blk s H scope (compEnvC scope cl C X.env) fp) tg g) (ht : ∀ (s : Shared) (H : Hp) (C : Addr) (cl : List (Str × Addr)) (fp : List Addr), PTs (X.blk s H scope (compEnvC scope cl C X.env) fp) ifs (lowT X.K Z tt))
    (he : ∀ (s : Shared) (H : Hp) (C : Addr) (cl : List (Str × Addr)) (fp : List Addr), E2 (X.blk s H scope (compEnvC scope cl C X.env) fp) Z elt te) (hs : ∀ x, foldedSetIterable iter X.env x = pure x := by intro _; rfl) :
    E2 X Z (.ListComp elt [⟨tg, iter, ifs, 0⟩] scope pos) (jLc ti g2 tt te (own.map (·.2))) := pe_imp (pe_lcH hc hN hi ok hg ht he hs) fun _ _ _ q => low_lc gw q
end

theorem _root_.L2H.RoomH.units {k : Nat} {A : Around} (r : RoomH k A) : A.units + 64 < cLine := by have := r.un; omega
theorem _root_.L2H.RoomH.units65 {k : Nat} {A : Around} (r : RoomH k A) : A.units + 65 < cLine := by have := r.un; omega
theorem _root_.L2.Room.units65 {k : Nat} {A : Around} (r : Room k A) : A.units + 65 < cLine := by have := r.un; omega
theorem hu_ofH {k : Nat} {A : Around} (r : RoomH k A) : A.units + 64 < cLine := r.units
theorem pass_none {P : Program} {w : World} {X : Cx} : Passes (L2N.CX P w) X (fun _ _ _ => False) := fun _ _ _ _ _ _ _ ⟨_, _, _, _, _, _, _, _, _, _, _, _, h⟩ => h.elim
def initB (K : PySem.W.Frag) (x : Str) : Bool := decide (PySem.W.findIn K (.ref (He.ga K x)) "__init__" = some (some (.ref (supAt K x)))) && decide (PySem.W.typeIn K (.ref (supAt K x)) = some (.type "function"))
theorem initB_ok {K : PySem.W.Frag} {x : Str} (h : initB K x = true) : PySem.W.findIn K (.ref (He.ga K x)) "__init__" = some (some (.ref (supAt K x))) ∧ PySem.W.typeIn K (.ref (supAt K x)) = some (.type "function") := ⟨of_decide_eq_true (He.ba h).1, of_decide_eq_true (He.ba h).2⟩
/-! ### tables of classes: ((C, D), b): an error of C is one of D -/
abbrev XTab := List ((Str × Str) × Bool)
def xkOf (t : XTab) (D C : Str) : Option Bool := t.lookup (C, D)
def xtB (K : PySem.W.Frag) (t : XTab) : Bool := t.all fun q => decide (PySem.W.exmOne K (.ref (He.ga K q.1.1)) (.ref (He.ga K q.1.2)) = some q.2) && decide (PySem.W.kitOne K (.ref (He.ga K q.1.1)) (.ref (He.ga K q.1.2)) = some q.2)
theorem mem_of_look : ∀ {t : XTab} {k : Str × Str} {b : Bool}, t.lookup k = some b → (k, b) ∈ t
  | [], _, _, h => by cases h
  | (k', b') :: t, k, b, h => by
    simp only [List.lookup] at h
    split at h
    · next e =>
      rw [eq_of_beq e, Option.some.inj h]
      exact List.mem_cons_self
    · exact List.mem_cons_of_mem _ (mem_of_look h)
theorem xtB_ok {K : PySem.W.Frag} {t : XTab} (h : xtB K t = true) {D C : Str} {b : Bool} (e : xkOf t D C = some b) : PySem.W.exmOne K (.ref (He.ga K C)) (.ref (He.ga K D)) = some b ∧ PySem.W.kitOne K (.ref (He.ga K C)) (.ref (He.ga K D)) = some b := by
  have q := List.all_eq_true.mp h _ (mem_of_look e)
  exact ⟨of_decide_eq_true (He.ba q).1, of_decide_eq_true (He.ba q).2⟩
/-- the classes of the table's errors -/
def xcB (K : PySem.W.Frag) (t : XTab) (l : List Str) : Bool := (l.all fun C => clsXB K (He.ga K C) && decide (PySem.W.kitOne K (.ref (He.ga K C)) (.type "ValueError") = some true)) && t.all fun q => l.contains q.1.1
theorem xcB_ok {K : PySem.W.Frag} {t : XTab} {l : List Str} (h : xcB K t l = true) {D C : Str} {b : Bool} (e : xkOf t D C = some b) : ClsX K (He.ga K C) := by
  obtain ⟨h1, h2⟩ := He.ba h
  have m := List.all_eq_true.mp h2 _ (mem_of_look e)
  have m2 : C ∈ l := by simpa using m
  exact clsXB_ok (He.ba (List.all_eq_true.mp h1 C m2)).1
/-- isinstance(e, ValueError) -/
def xvOf (l : List Str) (C : Str) : Option Bool := if l.contains C = true then some true else none
theorem xvB_ok {K : PySem.W.Frag} {t : XTab} {l : List Str} (h : xcB K t l = true) {C : Str} {b : Bool} (e : xvOf l C = some b) : PySem.W.kitOne K (.ref (He.ga K C)) (.type "ValueError") = some b := by
  unfold xvOf at e
  split at e
  · next hc =>
    cases e
    obtain ⟨h1, h2⟩ := He.ba h
    have m2 : C ∈ l := by simpa using hc
    exact of_decide_eq_true (He.ba (List.all_eq_true.mp h1 C m2)).2
  · cases e
theorem bb_ValueError : bootBuiltins "ValueError" = some (.type "ValueError") := by decide +kernel
end J

/-! J20: words for pure proofs with errors. -/
namespace J
open PySem PySem.Spec PyProof.Rows L2
section
variable {D0 : Ends2} {δ : Sg} {μ : Mu} {Q : QE} {d y z : D} {a : Addr}
theorem x_isE {ob : Option Bool} {ta : TE2} (h : ta δ μ fun x μ1 => x = .ref a ∧ ∃ b, ob = some b ∧ Q (.bl b) μ1) : jIsE a ob ta δ μ Q := h
theorem x_isEf {ob : Option Bool} {b : Bool} {R : D → Prop} (e : ob = some b) (h : R (.bl b)) : D.ref a = .ref a ∧ ∃ b, ob = some b ∧ R (.bl b) := ⟨rfl, b, e, h⟩
theorem x_xf {fs : List (Str × D)} {f : Str} {ta : TE2} (h : ta δ μ fun x μ1 => x = .ref a ∧ ∃ d, fs.lookup f = some d ∧ Q d μ1) : jXf a fs f ta δ μ Q := h
theorem x_xff {fs : List (Str × D)} {f : Str} {R : D → Prop} (e : fs.lookup f = some d) (h : R d) : D.ref a = .ref a ∧ ∃ d, fs.lookup f = some d ∧ R d := ⟨rfl, d, e, h⟩
theorem x_callX {sp : SpX} {C : Str} {fs : List (Str × D)} {t : TA2} (h : t δ μ fun ds μ1 => sp C fs a ds μ1 (Upd Q) noEx) : jCallX sp C fs a t δ μ Q := h
theorem x_callS {sp : Sp2} {ex : Sg → Ex2} {t : TA2} (h : t δ μ fun ds μ1 => sp ds μ1 (Upd Q) (ex δ)) : jCallS sp ex t δ μ Q := h
theorem x_raise {ex : Sg → Ex2} {C code : Str} {fl : List Str} {t : TA2} (h : t δ μ fun ds μ1 => ds.length = fl.length ∧ UpdE (ex δ) C (xAttrs code fl ds) μ1) : jRaise ex C code fl t D0 δ μ := h
/-- a try's wish of its body -/
def exTry (i : Nat) (m : Str → Option Bool) (ts : Str → List (Str × D) → Addr → TS2) (ex : Sg → Ex2) (D : Ends2) : Sg → Ex2 := fun δ' C fs μ' => ∃ b, m C = some b ∧ if b = true then ∀ a, μ' a = none → ts C fs a { nx := fun δ μ => D.nx (δ.set i none) μ, rt := D.rt, bk := fun δ μ => D.bk (δ.set i none) μ, ct := fun δ μ => D.ct (δ.set i none) μ } (δ'.set i (some (.ref a))) μ' else ex δ' C fs μ'
theorem x_tryo {i : Nat} {m : Str → Option Bool} {tb : (Sg → Ex2) → TS2} {ts : Str → List (Str × D) → Addr → TS2} {ex : Sg → Ex2} (h : ∀ ex', ex' = exTry i m ts ex D0 → tb ex' D0 δ μ) : jTry i m tb ts ex D0 δ μ := h _ rfl
/-- an error that the clause takes -/
theorem x_caught {i : Nat} {m : Str → Option Bool} {ts : Str → List (Str × D) → Addr → TS2} {ex ex' : Sg → Ex2} {C : Str} {fs : List (Str × D)} (e : ex' = exTry i m ts ex D0) (hm : m C = some true)
    (h : ∀ a, μ a = none → ts C fs a { nx := fun δ μ => D0.nx (δ.set i none) μ, rt := D0.rt, bk := fun δ μ => D0.bk (δ.set i none) μ, ct := fun δ μ => D0.ct (δ.set i none) μ } (δ.set i (some (.ref a))) μ) : ex' δ C fs μ := by
  subst e
  exact ⟨true, hm, by rw [if_pos rfl]; exact h⟩
theorem x_index {xs : List D} {j : Nat} (h1 : (D.lst xs).pl = true) (h2 : y.pl = true) (h3 : SeqAt.shaped (D.lst xs).py = true) (h4 : SeqAt.shaped y.py = true) (hz : xs[j]? = some z) (e : PyData.eqv z.py y.py = true)
    (hno : ((xs.take j).all fun z => !PyData.eqv z.py y.py) = true) (h : Q (.int (j : Nat)) μ) : index1 (.lst xs) [y] μ Q := by
  refine ⟨y, xs, y, j, z, rfl, .f, .f, h1, h2, h3, h4, hz, e, fun m z' hm hz' => ?_, h⟩
  have hmem : z' ∈ xs.take j := List.mem_of_getElem? (i := m) (by rw [List.getElem?_take_of_lt hm]; exact hz')
  have q := List.all_eq_true.mp hno z' hmem
  simpa using q
theorem x_neD {xs ys : List D} {b : Bool} (h1 : (D.lst xs).pl = true) (h2 : (D.lst ys).pl = true) (h3 : SeqAt.shaped (D.lst xs).py = true) (h4 : SeqAt.shaped (D.lst ys).py = true) (e : (true ^^ PyData.eqv (D.lst xs).py (D.lst ys).py) = b) (h : Q (.bl b) μ) : ne2 (.lst xs) (.lst ys) μ Q :=
  ⟨_, _, .f, .f, h1, h2, SeqAt.depth_of_shaped h3, SeqAt.depth_of_shaped h4, by rw [e]; exact h⟩
theorem x_tyL {xs : List D} {A : Prop} (h : A) : TyM "list" (.lst xs) μ ∧ A := ⟨rfl, h⟩
end
end J

/-! J21: texts: join, split, upper, times. -/
namespace J
open PySem PySem.Spec PyProof.Rows L2
section
variable {X : Cx}
theorem Reps.strs_of {K : PySem.W.Frag} {F : Hp} {vs : List V} {ys : List Str} (r : Reps K F vs (ys.map D.str)) : vs = ys.map V.str := r.strs
def join1 : OM := fun x ds μ Q => ∃ a y ys, x = .str a ∧ ds = [y] ∧ (SeqAt μ y (ys.map D.str) ∨ y = .tup (ys.map D.str)) ∧ (ys.map (·.length)).sum + ys.length * a.length ≤ 16777216 ∧ Q (.str (Txt.join a ys)) μ
theorem mjoin : MtR X "str.join" (lowOM X.K join1) := by
  rintro pins s σ H x xs v us Q I rx r ⟨F, μ, d, ds, Q0, w, r1, rs, q, k⟩
  obtain ⟨a, y, ys, rfl, rfl, hy, hz, q⟩ := q
  cases r1
  obtain ⟨yv, rfl, ry⟩ := rs.one
  rcases hy with hy | rfl
  · obtain ⟨p, vs, rfl, ha, r2⟩ := seq_at w ry hy
    rw [r2.strs] at ha
    exact mt_join pins s σ H _ _ v us Q I rx r ⟨_, p, ys, rfl, rfl, .inl ha, hz, k _ _ _ _ _ q .refl w .str⟩
  · obtain ⟨p, vs, rfl, ha, r2⟩ := tup_at w ry
    rw [r2.strs] at ha
    exact mt_join pins s σ H _ _ v us Q I rx r ⟨_, p, ys, rfl, rfl, .inr ha, hz, k _ _ _ _ _ q .refl w .str⟩
def split1 : OM := fun x ds μ Q => ∃ a b, x = .str a ∧ ds = [.str b] ∧ (b.length == 0) = false ∧ a.length + 2 ≤ sizeLine ∧ NewL ((Txt.split a b).map D.str) μ Q
theorem msplit : MtR X "str.split" (lowOM X.K split1) := by
  rintro pins s σ H x xs v us Q I rx r ⟨F, μ, d, ds, Q0, w, r1, rs, q, k⟩
  obtain ⟨a, b, rfl, rfl, hb, hz, q⟩ := q
  cases r1
  obtain ⟨yv, rfl, ry⟩ := rs.one
  cases ry
  refine mt_split pins s σ H _ _ v us Q I rx r ⟨_, _, rfl, rfl, hb, hz, fun p hp => ?_⟩
  have rr : Reps X.K F ((Txt.split a b).map V.str) ((Txt.split a b).map D.str) := Reps.of_strs _
  exact newL_ok w hp rr q k
def upper1 : OM := fun x ds μ Q => ∃ a, x = .str a ∧ ds = [] ∧ a.length ≤ 5592405 ∧ Q (.str (Txt.upper a)) μ
theorem mupper : MtR X "str.upper" (lowOM X.K upper1) := by
  rintro pins s σ H x xs v us Q I rx r ⟨F, μ, d, ds, Q0, w, r1, rs, q, k⟩
  obtain ⟨a, rfl, rfl, hz, q⟩ := q
  cases r1
  cases rs
  exact mt_upper pins s σ H _ _ v us Q I rx r ⟨_, rfl, rfl, hz, k _ _ _ _ _ q .refl w .str⟩
end
section
variable {μ : Mu} {Q : QE}
theorem x_mulS {x : Str} {n : Int} (L N : Nat) (hx : x.length ≤ L) (hn : n ≤ (N : Int)) (hlo : -(2 ^ 63 : Int) ≤ n) (hN : N ≤ 16777216) (hLN : L * N ≤ 16777216) (h : ∀ z : Str, z.length ≤ L * N → z = Txt.mul x n → Q (.str z) μ) : mul2 (.str x) (.int n) μ Q :=
  ⟨mulOk_of L N hx hn hlo hN hLN, h _ (len_mul_leN hx hn) rfl⟩
theorem sum_len_le {N : Nat} : ∀ {ys : List Str}, (∀ y ∈ ys, y.length ≤ N) → (ys.map (·.length)).sum ≤ ys.length * N
  | [], _ => Nat.zero_le _
  | y :: ys, h => by
    have h1 := h y (List.mem_cons_self ..)
    have h2 := sum_len_le (ys := ys) fun z hz => h z (List.mem_cons_of_mem _ hz)
    simp only [List.map_cons, List.sum_cons, List.length_cons, Nat.succ_mul]
    omega
theorem join_len {a : Str} {ys : List Str} : (Txt.join a ys).length ≤ (ys.map (·.length)).sum + ys.length * a.length := by
  show (Builtin.Str.glued a ys).length ≤ _
  rw [StrLaws.glued_eq_join]
  exact StrLaws.join_length_le a ys
theorem x_join {a : Str} {ys : List Str} (N : Nat) (hz : (ys.map (·.length)).sum + ys.length * a.length ≤ N) (hN : N ≤ 16777216) (h : ∀ z : Str, z.length ≤ N → z = Txt.join a ys → Q (.str z) μ) : join1 (.str a) [.lst (ys.map D.str)] μ Q :=
  ⟨a, _, ys, rfl, rfl, .inl .f, Nat.le_trans hz hN, h _ (Nat.le_trans join_len hz) rfl⟩
theorem x_split {a b : Str} (hb : (b.length == 0) = false) (hz : a.length + 2 ≤ sizeLine) (h : NewL ((Txt.split a b).map D.str) μ Q) : split1 (.str a) [.str b] μ Q := ⟨a, b, rfl, rfl, hb, hz, h⟩
theorem x_upper {a : Str} (N : Nat) (hz : a.length ≤ N) (hN : N ≤ 5592405) (h : ∀ z : Str, z.length ≤ 3 * N → z = Txt.upper a → Q (.str z) μ) : upper1 (.str a) [] μ Q :=
  ⟨a, rfl, rfl, Nat.le_trans hz hN, h _ (Nat.le_trans (len_upper a) (by omega)) rfl⟩
theorem x_iS {δ : Sg} {t : TE2} {R : List D → (Mu → Prop) → Mu → Prop} (h : t δ μ fun x μ1 => ∃ z, x = .str z ∧ R (strD z) (fun _ => True) μ1) : iStr2 t δ μ R := h
theorem x_iSf {z : Str} {R : Str → Prop} (h : R z) : ∃ y, D.str z = .str y ∧ R y := ⟨z, rfl, h⟩
theorem x_tyS {z : Str} {A : Prop} (h : A) : TyM "str" (.str z) μ ∧ A := ⟨rfl, h⟩
theorem x_slS {z : Str} {lo hi : Option Int} (hz : z.length ≤ sizeLine) (h : Q (.str (cutS z lo hi)) μ) : sl2 (.str z) lo hi μ Q := .inr (.inr ⟨z, rfl, hz, h⟩)
theorem x_slL {xs : List D} {lo hi : Option Int} (h : NewL (cutD xs lo hi) μ Q) : sl2 (.lst xs) lo hi μ Q := .inl ⟨xs, .f, h⟩
end
end J

/-! J22: words: lists or tuples walked, texts in lists, keys in dicts, sorted(dict), str(int). -/
namespace J
open PySem PySem.Spec PyProof.Rows L2
section
variable {μ : Mu} {Q : QE}
theorem x_iLT {δ : Sg} {t : TE2} {R : List D → (Mu → Prop) → Mu → Prop} (h : t δ μ fun x μ1 => iSeq' x μ1 R ∨ ∃ xs, x = .tup xs ∧ R xs (fun _ => True) μ1) : iLT t δ μ R := h
theorem x_inA {t : Str} {y : D} {xs : List D} (hy : SeqAt μ y xs) (ha : xs.all D.any = true) (h : Q (.bl (xs.any (isS t))) μ) : in2 false (.str t) y μ Q := .inr <| .inr <| .inr <| .inr ⟨t, xs, rfl, hy, ha, by rw [Bool.false_xor]; exact h⟩
theorem x_ninA {t : Str} {y : D} {xs : List D} (hy : SeqAt μ y xs) (ha : xs.all D.any = true) (h : Q (.bl (!xs.any (isS t))) μ) : in2 true (.str t) y μ Q := .inr <| .inr <| .inr <| .inr ⟨t, xs, rfl, hy, ha, by rw [Bool.true_xor]; exact h⟩
theorem x_inK {x y : D} {kvs : List (Key × D)} {k : Key} (hy : DctAt μ y kvs) (hk : keyD x = some k) (h : Q (.bl (valD kvs k).isSome) μ) : in2 false x y μ Q := .inr <| .inr <| .inl ⟨kvs, k, hy, hk, by rw [Bool.false_xor]; exact h⟩
theorem x_ninK {x y : D} {kvs : List (Key × D)} {k : Key} (hy : DctAt μ y kvs) (hk : keyD x = some k) (h : Q (.bl (!(valD kvs k).isSome)) μ) : in2 true x y μ Q := .inr <| .inr <| .inl ⟨kvs, k, hy, hk, by rw [Bool.true_xor]; exact h⟩
theorem x_sortedD {y : D} {kvs : List (Key × D)} {ss : List Str} (hy : DctAt μ y kvs) (he : kvs.map (·.1) = ss.map Sum.inr) (h : ∀ ys : List Str, ys.Perm ss → ys.Pairwise leS → NewL (ys.map D.str) μ Q) : sorted1 [y] μ Q := .inr <| .inr <| .inl ⟨kvs, ss, hy, he, fun ys h1 h2 => h ys h1 (sortedS_pw ys h2)⟩
theorem x_sortedX {y : D} {xs : List D} (hy : SeqAt μ y xs) (hp : xs.all D.pl = true) (ha : PySem.W.AllAlike (xs.map D.py)) (hs : PySem.W.Sortable (xs.map D.py)) (hd : ∀ d ∈ xs, d.py.depth ≤ 60) (h : ∀ ys : List D, ys.Perm xs → Asc ys → NewL ys μ Q) : sorted1 [y] μ Q := .inr <| .inr <| .inr ⟨xs, hy, hp, ha, hs, hd, h⟩
theorem x_minS {x y : Str} (h : Q (.str (if y.cps.toList < x.cps.toList then y else x)) μ) : min1 [.str x, .str y] μ Q := h
theorem x_maxS {x y : Str} (h : Q (.str (if x.cps.toList < y.cps.toList then y else x)) μ) : max1 [.str x, .str y] μ Q := h
theorem x_str {i : Int} (hl : i.natAbs.log2 < 1920) (h : Q (.str (toString i)) μ) : str1 [.int i] μ Q := ⟨hl, h⟩
theorem isS_mem {t : Str} {xs : List D} : xs.any (isS t) = true ↔ D.str t ∈ xs := by
  rw [List.any_eq_true]
  constructor
  · rintro ⟨x, hx, e⟩
    cases x <;> first | cases e | skip
    rename_i u
    have e : u = t := of_decide_eq_true (by simpa [isS] using e)
    subst e
    exact hx
  · intro h
    exact ⟨_, h, by simp [isS]⟩
end
end J

/-! J23: comprehensions of dicts, list.insert, properties, methods and makings that may raise. -/
namespace J
open PySem PySem.Spec PyProof.Rows L2
section
variable {X : Cx} {Z : Zw}
/-! ### {k: v for target in iter if ..} -/
def jDcl (g : TG2) (tt : TT2) (tk tv : TE2) (δ0 : Sg) (G : Mu → Prop) (kk : List (Key × D) → Mu → Prop) : List D → List (Key × D) → Mu → Prop
  | [], acc => fun μ => G μ ∧ kk acc μ
  | x :: r, acc => fun μ => G μ ∧ g x δ0 μ fun δ1 μ1 => tt δ1 μ1 fun b μ2 => if b = true then tk δ1 μ2 fun y μ3 => tv δ1 μ3 fun z μ4 => ∃ k, keyD y = some k ∧ acc.length < sizeLine ∧ jDcl g tt tk tv δ0 G kk r (putKD acc k z) μ4 else jDcl g tt tk tv δ0 G kk r acc μ2
def jDc (ti : TI2) (g : TG2) (tt : TT2) (tk tv : TE2) (vs : List Nat) : TE2 := fun δ μ Q => ti δ μ fun items G μ1 => jDcl g tt tk tv (wipeD δ vs) G (fun acc μ' => NewD acc μ' Q) items [] μ1
theorem low_dc {K : PySem.W.Frag} {ti : TI2} {g : TG} {g2 : TG2} {tt : TT2} {tk tv : TE2} {vs : List Nat} {σ : Sv} {H : Hp} {Q : VK} (gw : GW K Z vs g g2) (h : lowE K Z (jDc ti g2 tt tk tv vs) σ H Q) : tDc (lowI K Z ti) g (lowT K Z tt) (lowE K Z tk) (lowE K Z tv) vs σ H Q := by
  obtain ⟨F, δ, μ, Q0, m, q, k⟩ := h
  refine ⟨F, δ, μ, _, m, q, ?_⟩
  intro items G μ1 F1 H1 J q1 g1 w1 io L hL
  have m1 := m.step g1 w1
  have fL : F1 L = none := by
    cases e : F1 L with
    | none => rfl
    | some u => rw [w1.sub _ _ e] at hL; cases hL
  have uL : μ1 L = none := by
    cases e : μ1 L with
    | none => rfl
    | some u =>
      obtain ⟨_, ho, e2, _⟩ := w1.mts _ _ e
      rw [e2] at hL; cases hL
  let P : Nat → Hp → Prop := fun i H2 => ∃ F2 μ2 acc us, Gr F1 H1 μ1 F2 H2 μ2 ∧ Wd K F2 H2 μ2 ∧ H2 L = some (.dK us) ∧ F2 L = none ∧ μ2 L = none ∧ RepK K F2 us acc ∧ jDcl g2 tt tk tv (wipeD δ vs) G (fun acc μ' => NewD acc μ' Q0) (items.drop i) acc μ2
  have wr : ∀ {F2 H2 μ2} {us : List (Key × V)}, Wd K F2 H2 μ2 → F2 L = none → μ2 L = none → Wd K F2 (upd H2 L (.dK us)) μ2 := by
    intro F2 H2 μ2 us w2 h1 h2
    refine ⟨fun b u e => by rw [upd_ne (fun z => by rw [z, h1] at e; cases e)]; exact w2.sub b u e, fun a u e => ?_⟩
    obtain ⟨x1, ho, x2, x3⟩ := w2.mts a u e
    exact ⟨x1, ho, by rw [upd_ne (fun z => by rw [z, h2] at e; cases e)]; exact x2, x3⟩
  have gr : ∀ {F2 H2 μ2} {us : List (Key × V)}, Gr F1 H1 μ1 F2 H2 μ2 → Gr F1 H1 μ1 F2 (upd H2 L (.dK us)) μ2 := by
    intro F2 H2 μ2 us g
    refine ⟨g.ff, fun b u h1 h2 h3 => ?_⟩
    obtain ⟨x1, x2, x3⟩ := g.fr b u h1 h2 h3
    exact ⟨by rw [upd_ne (fun z => by rw [z, hL] at h1; cases h1)]; exact x1, x2, x3⟩
  refine ⟨fun i n H2 => n = items.length - i ∧ i ≤ items.length ∧ P i H2, ⟨_, rfl, Nat.zero_le _, F1, μ1, [], [], gr .refl, wr w1 fL uL, upd_same, fL, uL, .nil, q1⟩, ?_⟩
  rintro i n H2 ⟨rfl, hi, F2, μ2, acc, us, g2', w2, hL2, fL2, uL2, rs, q2⟩
  by_cases hlt : i < items.length
  · obtain ⟨x, hx, hd⟩ := drop_at hlt
    rw [hd] at q2
    obtain ⟨hG, q2⟩ := q2
    obtain ⟨go, yl⟩ := (io F2 H2 μ2 g2'.ff w2 hG).1 i x hx
    refine .inr ⟨go, P (i + 1), fun H' z => ⟨items.length - (i + 1), by omega, rfl, by omega, z⟩, ?_⟩
    intro xv H3 hy
    obtain ⟨F3, g3, w3, r3⟩ := yl xv H3 hy
    have gg3 := g2'.trans g3
    obtain ⟨hL3, fL3, uL3⟩ := g3.fr L _ hL2 fL2 uL2
    have m3 : Mt K Z F3 (wipe σ vs) H3 (wipeD δ vs) μ2 := ⟨w3, repE_wipe (m1.env.mono gg3.ff) vs, Z.up m1.z gg3⟩
    refine gw.run xv x σ F3 H3 _ μ2 _ _ m3 r3 q2 ?_
    intro δ4 σ4 q4 m4 hw4
    refine ⟨hw4, F3, δ4, μ2, _, m4, q4, ?_⟩
    intro b μ5 F5 H5 q5 g5 w5
    have gg5 := gg3.trans g5
    obtain ⟨hL5, fL5, uL5⟩ := g5.fr L _ hL3 fL3 uL3
    cases b with
    | true =>
      rw [if_pos rfl] at q5 ⊢
      refine ⟨F5, δ4, μ5, _, m4.step g5 w5, q5, ?_⟩
      rintro y μ6 F6 H6 yv q6 g6 w6 r6
      obtain ⟨hL6, fL6, uL6⟩ := g6.fr L _ hL5 fL5 uL5
      refine ⟨F6, δ4, μ6, _, m4.step (g5.trans g6) w6, q6, ?_⟩
      rintro z μ7 F7 H7 zv ⟨kk, hk, hz, q7⟩ g7 w7 r7
      obtain ⟨hL7, fL7, uL7⟩ := g7.fr L _ hL6 fL6 uL6
      exact ⟨us, kk, keyD_rep r6 hk, hL7, by rw [rs.length]; exact hz, F7, μ7, putKD acc kk z, putK us kk zv, gr ((gg5.trans g6).trans g7), wr w7 fL7 uL7, upd_same, fL7, uL7, RepK.put r7 (rs.mono (((g3.trans g5).trans g6).trans g7).ff), q7⟩
    | false =>
      rw [if_neg Bool.false_ne_true] at q5 ⊢
      exact ⟨F5, μ5, acc, us, gg5, w5, hL5, fL5, uL5, rs.mono (g3.trans g5).ff, q5⟩
  · have ei : i = items.length := by omega
    subst ei
    rw [List.drop_length] at q2
    obtain ⟨hG, q2⟩ := q2
    refine .inl ⟨(io F2 H2 μ2 g2'.ff w2 hG).2 _ (Nat.le_refl _), ?_⟩
    have back : ∀ b o, H b = some o → F b = none → μ b = none → b ≠ L := fun b o h1 h2 h3 z => by
      obtain ⟨x1, _⟩ := g1.fr b o h1 h2 h3
      rw [z, hL] at x1; cases x1
    have gt := g1.trans g2'
    rcases q2 with q2 | q2
    · have ff : Same F2 (upd F2 L (.dK us)) := fun b u e => by rw [upd_ne (ne_of_none e fL2)]; exact e
      have w3 : Wd K (upd F2 L (.dK us)) H2 μ2 := by
        refine ⟨fun b u e => ?_, fun a u e => ?_⟩
        · by_cases hb : b = L
          · subst hb; rw [upd_same] at e; rw [hL2]; exact e
          · rw [upd_ne hb] at e; exact w2.sub b u e
        · obtain ⟨x1, ho, x2, x3⟩ := w2.mts a u e
          exact ⟨by rw [upd_ne (fun z => by rw [z, uL2] at e; cases e)]; exact x1, ho, x2, x3.mono ff⟩
      refine k _ μ2 _ H2 _ q2 ⟨gt.ff.trans ff, fun b o h1 h2 h3 => ?_⟩ w3 (.dct upd_same (rs.mono ff))
      obtain ⟨x1, x2, x3⟩ := gt.fr b o h1 h2 h3
      exact ⟨x1, by rw [upd_ne (back b o h1 h2 h3)]; exact x2, x3⟩
    · have w3 : Wd K F2 H2 (mup μ2 L (.dct acc)) := by
        refine ⟨w2.sub, fun a u e => ?_⟩
        by_cases ha : a = L
        · subst ha
          rw [mup_same] at e; cases e
          exact ⟨fL2, _, hL2, .dct rs⟩
        · rw [mup_ne ha] at e
          exact w2.mts a u e
      refine k _ _ _ H2 _ (q2 L uL2) ⟨gt.ff, fun b o h1 h2 h3 => ?_⟩ w3 .ref
      obtain ⟨x1, x2, x3⟩ := gt.fr b o h1 h2 h3
      exact ⟨x1, x2, by rw [mup_ne (back b o h1 h2 h3)]; exact x3⟩
theorem jdc {kx vx tg iter : Expr} {ifs : List Expr} {scope : Scope} {own : List (Str × Nat)} {pos : Pos} {ti : TI2} {g : TG} {g2 : TG2} {tt : TT2} {tk tv : TE2} (hc : X.calm = true) (hN : X.N.Nodup) (hi : I2 X Z tg iter ti) (ok : BlkOk X.N X.env.scope scope own) (gw : GW X.K Z (own.map (·.2)) g g2)
    (hg : ∀ (s : Shared) (H : Hp) (C : Addr) (cl : List (Str × Addr)) (fp : List Addr), PG (X.blk s H scope (compEnvC scope cl C X.env) fp) tg g) (ht : ∀ (s : Shared) (H : Hp) (C : Addr) (cl : List (Str × Addr)) (fp : List Addr), PTs (X.blk s H scope (compEnvC scope cl C X.env) fp) ifs (lowT X.K Z tt))
    (hk : ∀ (s : Shared) (H : Hp) (C : Addr) (cl : List (Str × Addr)) (fp : List Addr), E2 (X.blk s H scope (compEnvC scope cl C X.env) fp) Z kx tk)
    (he : ∀ (s : Shared) (H : Hp) (C : Addr) (cl : List (Str × Addr)) (fp : List Addr), E2 (X.blk s H scope (compEnvC scope cl C X.env) fp) Z vx tv) (hs : ∀ x, foldedSetIterable iter X.env x = pure x := by intro _; rfl) :
    E2 X Z (.DictComp kx vx [⟨tg, iter, ifs, 0⟩] scope pos) (jDc ti g2 tt tk tv (own.map (·.2))) := pe_imp (pe_dc hc hN hi ok hg ht hk he hs) fun _ _ _ q => low_dc gw q
theorem ps_setDc {i : Nat} {y : Str} {py : Pos} {kx vx tg iter : Expr} {ifs : List Expr} {scope : Scope} {own : List (Str × Nat)} {pos spos : Pos} {wi : TI} {g : TG} {tt : TT} {tk tv : TE} (hc : X.calm = true) (hN : X.N.Nodup) (hy : X.N[i]? = some y) (hyl : X.env.scope.names.lookup y = some .local)
    (hsw : swapsWith (.DictComp kx vx [⟨tg, iter, ifs, 0⟩] scope pos) (some (.Name y py)) spos.line X.env = pure true) (hi : PI X tg iter wi) (ok : BlkOk X.N X.env.scope scope own)
    (hg : ∀ (s : Shared) (H : Hp) (C : Addr) (cl : List (Str × Addr)) (fp : List Addr), PG (X.blk s H scope (compEnvC scope cl C X.env) fp) tg g) (ht : ∀ (s : Shared) (H : Hp) (C : Addr) (cl : List (Str × Addr)) (fp : List Addr), PTs (X.blk s H scope (compEnvC scope cl C X.env) fp) ifs tt)
    (hk : ∀ (s : Shared) (H : Hp) (C : Addr) (cl : List (Str × Addr)) (fp : List Addr), PE (X.blk s H scope (compEnvC scope cl C X.env) fp) kx tk)
    (he : ∀ (s : Shared) (H : Hp) (C : Addr) (cl : List (Str × Addr)) (fp : List Addr), PE (X.blk s H scope (compEnvC scope cl C X.env) fp) vx tv) (hs : ∀ x, foldedSetIterable iter X.env x = pure x := by intro _; rfl) :
    PS X (.Assign [.Name y py] (.DictComp kx vx [⟨tg, iter, ifs, 0⟩] scope pos) spos) (tAsg (tDc wi g tt tk tv (own.map (·.2))) (gName i)) := by
  refine ⟨fun pins s σ H D I h => ?_⟩
  rw [exec_Assign_Name_used _ _ _ _ hsw]
  refine wpAny_bind (wpAny_standAt (wpAny_bind ?_))
  show wpAny _ X.A (do let _ ← comprehension (.DictComp kx vx [⟨tg, iter, ifs, 0⟩] scope pos) scope X.env (firstIterPos [⟨tg, iter, ifs, 0⟩] pos) newDict false (eval iter X.env) (some (assign (.Name y py) X.env))) _ _ s
  have h : tDc wi g tt tk tv (own.map (·.2)) σ H (fun x H1 => gName i x σ H1 D.nx) := h
  refine wpAny_bind (thn (dc_core (Qf := fun _ s' => SP X pins D .next s') hc hN I hi ok hg ht hk he hs h fun L C s' m H' I' q hn f => ?_) fun _ s' hq => wpAny_pure (wpAny_pure hq))
  show wpAny _ _ (assign (.Name y py) X.env (.ref L)) _ _ _
  refine wpAny_assign_Name (store_ok2 (v := V.ref L) I' hN hy (.inl hyl) rfl (fun s2 I2 ⟨a, sb, ha⟩ => ?_) (.inr hyl))
  obtain ⟨f0, f1, f2, f3, f4, f5⟩ := f
  have haC : C ≠ a := by
    rcases ha with z | z
    · rw [z]; exact f1
    · exact fun e => f4 y a z e.symm
  refine ⟨m, hn.sameBut sb haC, fun h3 sb3 => ?_⟩
  exact ⟨_, H', I2.turned (t' := s2.toks) (fun b o hb e => (sb3.2 b hb).trans e) f0 f1 f3 f4 f5, q⟩
theorem sw_trueD {kx vx : Expr} {gs : List Comprehension} {scope : Scope} {pos py : Pos} {y : Str} {l : Nat} {env : Env} (hk : env.scope.kind = .function) (hy : env.scope.names.lookup y = some .local) (hl : (py.line == pos.line) = true)
    (ha : (scope.names.any fun (n, k) => n == y && (k == .local || k == .cell)) = false) : swapsWith (.DictComp kx vx gs scope pos) (some (.Name y py)) l env = pure true := by
  have ky : env.kindOf y = some .local := hy
  have hb : env.blockKind = .function := by unfold Env.blockKind; rw [hk]; rfl
  unfold swapsWith
  simp only [pure_bind]
  rw [hb, ky, show (Expr.DictComp kx vx gs scope pos).pos = pos from rfl, hl, ha]
  rfl
theorem js_setDc {i : Nat} {y : Str} {py : Pos} {kx vx tg iter : Expr} {ifs : List Expr} {scope : Scope} {own : List (Str × Nat)} {pos spos : Pos} {ti : TI2} {g : TG} {g2 : TG2} {tt : TT2} {tk tv : TE2} (hc : X.calm = true) (hN : X.N.Nodup) (hy : X.N[i]? = some y) (hyl : X.env.scope.names.lookup y = some .local)
    (hsw : swapsWith (.DictComp kx vx [⟨tg, iter, ifs, 0⟩] scope pos) (some (.Name y py)) spos.line X.env = pure true) (hi : I2 X Z tg iter ti) (ok : BlkOk X.N X.env.scope scope own) (gw : GW X.K Z (own.map (·.2)) g g2)
    (hg : ∀ (s : Shared) (H : Hp) (C : Addr) (cl : List (Str × Addr)) (fp : List Addr), PG (X.blk s H scope (compEnvC scope cl C X.env) fp) tg g) (ht : ∀ (s : Shared) (H : Hp) (C : Addr) (cl : List (Str × Addr)) (fp : List Addr), PTs (X.blk s H scope (compEnvC scope cl C X.env) fp) ifs (lowT X.K Z tt))
    (hk : ∀ (s : Shared) (H : Hp) (C : Addr) (cl : List (Str × Addr)) (fp : List Addr), E2 (X.blk s H scope (compEnvC scope cl C X.env) fp) Z kx tk)
    (he : ∀ (s : Shared) (H : Hp) (C : Addr) (cl : List (Str × Addr)) (fp : List Addr), E2 (X.blk s H scope (compEnvC scope cl C X.env) fp) Z vx tv) (hs : ∀ x, foldedSetIterable iter X.env x = pure x := by intro _; rfl) :
    S2 X Z (.Assign [.Name y py] (.DictComp kx vx [⟨tg, iter, ifs, 0⟩] scope pos) spos) (jAsg (jDc ti g2 tt tk tv (own.map (·.2))) (kName i)) := by
  refine ps_imp (ps_setDc (tk := lowE X.K Z tk) (tv := lowE X.K Z tv) hc hN hy hyl hsw hi ok hg ht hk he hs) ?_
  rintro D σ H ⟨F, δ, μ, D2, m, q, e⟩
  refine low_dc gw (K := X.K) (Z := Z) ⟨F, δ, μ, _, m, q, ?_⟩
  intro d μ1 F1 H1 v q1 g1 w1 r1
  have m1 := m.step g1 w1
  exact e.nx _ μ1 F1 _ H1 q1 g1 ⟨w1, m1.env.set r1 i, m1.z⟩
/-! ### list.insert -/
def insert1 : OM := fun x ds μ Q => ∃ a xs i d, x = .ref a ∧ ds = [.int i, d] ∧ μ a = some (.lst xs) ∧ xs.length < sizeLine ∧ 0 ≤ i ∧ i < 2 ^ 62 ∧ Q .non (mup μ a (.lst (xs.take i.toNat ++ [d] ++ xs.drop i.toNat)))
theorem minsert : MtR X "list.insert" (lowOM X.K insert1) := by
  rintro pins s σ H x xs v us Q I rx r ⟨F, μ, d, ds, Q0, w, r1, rs, q, k⟩
  obtain ⟨a, zs, i, e, rfl, rfl, hm, hl, h0, h1, q⟩ := q
  cases r1
  cases rs with
  | cons ri rs =>
    cases ri
    obtain ⟨y, rfl, ry⟩ := rs.one
    obtain ⟨vs, hv, r2⟩ := mlst_at w hm
    have r3 : Reps X.K F (vs.take i.toNat ++ [y] ++ vs.drop i.toNat) (zs.take i.toNat ++ [e] ++ zs.drop i.toNat) := ((r2.take _).append (.cons ry .nil)).append (r2.drop _)
    obtain ⟨w2, g2⟩ := w.write hm (RepM.lst r3)
    exact mt_insert pins s σ H _ _ v us Q I rx r ⟨_, vs, i, y, rfl, rfl, hv, by rw [r2.length]; exact hl, h0, by omega, k _ _ _ _ _ q g2 w2 .non⟩
end
/-! ### o.f, a property; o.m(..), C(..) that may raise -/
section
variable {X : Cx} {Z : Zw} {CX : CXT} {k : Nat} {p g f : Addr} {C m x : Str} {fd : FuncData} {ps : List Str} {sp : Sp2} {dds : List D} {dvs : List V} {ds : List Value} {ta : TE2} {t : TA2} {e o : Expr} {es : List Expr} {pos apos pp : Pos}
def jProp (C : Str) (sp : Sp2) (ex : Ex2) (ta : TE2) : TE2 := fun δ μ Q => ta δ μ fun x μ1 => (∃ fs, IsIns x C fs μ1) ∧ sp [x] μ1 (Upd Q) ex
theorem jprop {ex : Ex2} {E : XK} {f : Str} (c : Cls X.K (He.ga X.K C)) (hp : PropOf X.K (He.ga X.K C) f p g) (F : FnOk X.prog X.w X.K X.mg X.base CX k g fd ["self"] (lowSp X.K sp)) (hr : Room (k + 1) X.A) (hb : Binds X.K fd ["self"] []) (hx : Passes CX X.nox E) (hz : ∀ F H μ, Z.p F H μ → ZE X.K ex E F H μ)
    (he : E2 X Z e ta) (hab : attributeBase e f X.env (eval e X.env) = eval e X.env) : E2 X Z (.Attribute e f pos) (jProp C sp ex ta) := by
  refine pe_imp (pe_prop (dvs := []) (ds := []) he c hp F hr hb .nil hx hab) ?_
  rintro σ H Q ⟨F, δ, μ, Q0, mm, q, k⟩
  refine ⟨F, δ, μ, _, mm, q, ?_⟩
  rintro x μ0 F0 H0 xv ⟨⟨fs, hi⟩, q0⟩ g0 w0 r0
  obtain ⟨a, dx, vs0, rfl, ha, rs⟩ := ins_at w0 r0 hi
  refine ⟨a, dx, vs0, rfl, ha, F0, μ0, [x], _, ex, w0, .cons r0 .nil, q0, ?_, hz _ _ _ (Z.up mm.z g0)⟩
  intro d μ2 F2 H2 v q2 g2 w2 r2
  obtain ⟨F3, d3, μ3, g3, w3, r3, q3⟩ := q2 X.K F2 H2 v w2 r2
  exact k d3 μ3 F3 H2 v q3 ((g0.trans g2).trans g3) w3 r3
theorem run_makeE {pins : List (Addr × Obj)} {σ : Sv} {H : Hp} {s : Shared} {Q : VK} {us : List Value} {vs : List V} {C f : Addr} {sp : Sp} {E : XK} (M : Mk X.K C f) (F : FnOk X.prog X.w X.K X.mg X.base CX k f fd ps sp) (hr : Room (k + 1) X.A) (hb : Binds X.K fd ps ds) (hd : Vals dvs ds)
    (hx : PassesAt CX X σ E) (I : Inv X pins σ H s) (r : Vals vs us)
    (h : ∀ x dx, H x = none → H dx = none → dx ≠ x → sp (.ref x :: (vs ++ dvs)) (upd (upd H dx (.own x)) x (.ins C dx [])) (fun v H2 => v = .non ∧ Q (.ref x) H2) E) :
    wpAny (model X.prog X.w) X.A (call (.ref C) us) (EP X pins σ Q) X.xe s := by
  have hq := h (s.heap.objs.size + 1) s.heap.objs.size (I.hok.fresh (Nat.le_succ _)) (I.hok.fresh (Nat.le_refl _)) (Nat.ne_of_lt (Nat.lt_succ_self _))
  have I2 := Inv.made (C := C) I
  have r2 : Vals (V.ref (s.heap.objs.size + 1) :: (vs ++ dvs)) (Value.ref (s.heap.objs.size + 1) :: (us ++ ds)) := .cons rfl (r.append hd)
  have hl : (Value.ref (s.heap.objs.size + 1) :: us ++ ds).length = ps.length := by
    have e := r2.length
    rw [F.len _ _ _ _ hq] at e
    exact e.symm
  refine wpAny_call (make_map (f := f) I.kIn M.makes M.init (beq_iff_eq.mp M.fn) (codeAny_mono (F.run _ X.stack _ _ ⟨Value.ref (s.heap.objs.size + 1) :: us, []⟩ (Value.ref (s.heap.objs.size + 1) :: (us ++ ds)) _ _ E (hr.make C us [])
    (I2.env0.make C us []) (hb _ (Value.ref (s.heap.objs.size + 1) :: us) I2.kIn hl) r2 hq) fun r s' hq' => ?_))
  cases r with
  | error e => exact hx pins _ _ e s' I2 hq'
  | ok fl =>
    cases fl with
    | ret u =>
      obtain ⟨v, H', I3, rv, ev, q3⟩ := I2.after hq'
      subst ev
      exact ⟨rv, ⟨V.ref (s.heap.objs.size + 1), H', I3, rfl, q3⟩⟩
    | next => exact False.elim hq'
    | brk => exact False.elim hq'
    | cont => exact False.elim hq'
def tMakeE (C : Addr) (sp : Sp) (dvs : List V) (E : Sv → XK) (t : TA) : TE := fun σ H Q => t σ H fun vs H1 => ∀ x dx, H1 x = none → H1 dx = none → dx ≠ x → sp (.ref x :: (vs ++ dvs)) (upd (upd H1 dx (.own x)) x (.ins C dx [])) (fun v H2 => v = .non ∧ Q (.ref x) H2) (E σ)
theorem pe_makeE {C f : Addr} {sp : Sp} {E : Sv → XK} {t : TA} (M : Mk X.K C f) (F : FnOk X.prog X.w X.K X.mg X.base CX k f fd ps sp) (hr : Room (k + 1) X.A) (hg : Gl X x) (hm : X.mg x = some (.ref C)) (hb : Binds X.K fd ps ds) (hd : Vals dvs ds) (hx : ∀ σ, PassesAt CX X σ (E σ))
    (ha : PA X (e :: es) t) (hdb : (x == ("__debug__" : Str)) = false := by decide) (he : starEach (e :: es) X.env = (false, eval e X.env) :: starEach es X.env := by rfl) (hpl : (backTo pos (starEach es X.env)).any (·.1) = false := by rfl) :
    PE X (.Call (.Name x pp) (e :: es) [] pos) (tMakeE C sp dvs E t) := by
  refine ⟨fun pins s σ H Q I h => ?_⟩
  refine wpAny_Call_Name_kw (ld_glob I hg hm ?_ hdb)
  refine PySem.W.callWith_K (h₀ := X.base) I.ok.mod.kin M.kp (thn (ha.run pos pins s σ H _ I h) fun us s1 ⟨vs, H1, I1, r, q⟩ => ⟨I1.kIn, ?_⟩) he hpl
  exact run_makeE M F hr hb hd (hx σ) I1 r q
def tMethE (C : Addr) (m : Str) (sp : Sp) (dvs : List V) (E : Sv → XK) (ta : TE) (t : TA) : TE := fun σ H Q => ta σ H fun x H1 => ∃ a dx fs, x = .ref a ∧ H1 a = some (.ins C dx fs) ∧ fs.lookup m = none ∧ t σ H1 fun vs H2 => sp (x :: (vs ++ dvs)) H2 Q (E σ)
theorem pe_methE {C f : Addr} {m : Str} {sp : Sp} {E : Sv → XK} {ta : TE} {t : TA} {pl : Sem Bool} (he : PE X o ta) (c : Cls X.K C) (hm : Meth X.K C m f) (F : FnOk X.prog X.w X.K X.mg X.base CX k f fd ps sp) (hr : Room k X.A) (hb : Binds X.K fd ps ds) (hd : Vals dvs ds) (hx : ∀ σ, PassesAt CX X σ (E σ)) (ha : PA X (e :: es) t)
    (hst : starEach (e :: es) X.env = (false, eval e X.env) :: starEach es X.env := by rfl) (hpl : (backTo pos (starEach es X.env)).any (·.1) = false := by rfl)
    (ht : eval (.Call (.Attribute o m apos) (e :: es) [] pos) X.env = (do
      let ov ← eval o X.env
      standAt apos.atName
      let (f, first) ← holding [ov] (getMethod ov m pl)
      callWith pos f first (backTo pos (starEach (e :: es) X.env)) (backToKw pos (keywordEach [] X.env))) := by rfl) :
    PE X (.Call (.Attribute o m apos) (e :: es) [] pos) (tMethE C m sp dvs E ta t) := by
  refine ⟨fun pins s σ H Q I h => ?_⟩
  refine PySem.W.methodCall_KW (pl := pl) (thn (he.run pins s σ H _ I h) fun u s1 ⟨x, H1, I1, rx, a, dx, fs, ex, ea, l, q⟩ => ?_) ht
  subst ex
  obtain rfl : u = Value.ref a := rx
  refine getmeth_ok I1 ea c hm l ?_
  refine PySem.W.callWith_K (first := [.ref a]) (h₀ := X.base) I.ok.mod.kin hm.kp (thn (ha.run pos pins s1 σ H1 _ I1 q) fun us s2 ⟨vs, H2, I2, r, q2⟩ => ⟨I2.kIn, ?_⟩) hst hpl
  exact run_fnSD (us := .ref a :: us) (vs := .ref a :: vs) F hr hb hd (hx σ) I2 (.cons rfl r) q2
def jMakeS (C : Str) (sp : Sp2) (dds : List D) (ex : Sg → Ex2) (t : TA2) : TE2 := fun δ μ Q => t δ μ fun ds μ1 => ∀ x, μ1 x = none → sp (.ref x :: (ds ++ dds)) (mup μ1 x (.ins C [])) (fun d μ2 => d = .non ∧ Upd Q (.ref x) μ2) (ex δ)
def jMethS (C m : Str) (sp : Sp2) (dds : List D) (ex : Sg → Ex2) (ta : TE2) (t : TA2) : TE2 := fun δ μ Q => ta δ μ fun x μ1 => (∃ fs, IsIns x C fs μ1 ∧ fs.lookup m = none) ∧ t δ μ1 fun ds μ2 => sp (x :: (ds ++ dds)) μ2 (Upd Q) (ex δ)
section
variable {ex : Sg → Ex2} {W : WX}
theorem jmakeS (M : Mk X.K (He.ga X.K C) f) (F : FnOk X.prog X.w X.K X.mg X.base (L2N.CX X.prog X.w) k f fd ps (lowSp X.K sp)) (tk : L2N.Takes X W) (hr : Room (k + 1) X.A) (hg : Gl X x) (hm : X.mg x = some (.ref (He.ga X.K C))) (hb : Binds X.K fd ps ds) (hd : Vals dvs ds) (hdd : ∀ F, Reps X.K F dvs dds)
    (ha : A2 X (ZW X.K ex W) (e :: es) t) (hdb : (x == ("__debug__" : Str)) = false := by decide) (he : starEach (e :: es) X.env = (false, eval e X.env) :: starEach es X.env := by rfl) (hpl : (backTo pos (starEach es X.env)).any (·.1) = false := by rfl) :
    E2 X (ZW X.K ex W) (.Call (.Name x pp) (e :: es) [] pos) (jMakeS C sp dds ex t) := by
  refine pe_imp (pe_makeE (E := WE W) M F hr hg hm hb hd (L2N.passAt tk) ha hdb he hpl) fun σ H Q h => ?_
  obtain ⟨F, δ, μ, Q0, m, h, k⟩ := h
  refine ⟨F, δ, μ, _, m, h, ?_⟩
  intro as μ1 F1 H1 vs q1 g1 w1 r1
  refine low_make (ex := ex δ) w1 r1 hdd ?_ q1 fun d μ' F' H' v q' g' w' r' => k d μ' F' H' v q' (g1.trans g') w' r'
  intro C fs μ' F' H' dx vs e' g' w' hd hf n r
  exact m.z δ σ C fs μ' F' H' dx vs e' (g1.trans g') w' (m.env.mono (g1.trans g').ff) hd hf (n.of g1) r
theorem jmethS {pl : Sem Bool} (he : E2 X (ZW X.K ex W) o ta) (c : Cls X.K (He.ga X.K C)) (hm : Meth X.K (He.ga X.K C) m f) (F : FnOk X.prog X.w X.K X.mg X.base (L2N.CX X.prog X.w) k f fd ps (lowSp X.K sp)) (tk : L2N.Takes X W) (hr : Room k X.A) (hb : Binds X.K fd ps ds) (hd : Vals dvs ds) (hdd : ∀ F, Reps X.K F dvs dds) (ha : A2 X (ZW X.K ex W) (e :: es) t)
    (hst : starEach (e :: es) X.env = (false, eval e X.env) :: starEach es X.env := by rfl) (hpl : (backTo pos (starEach es X.env)).any (·.1) = false := by rfl)
    (ht : eval (.Call (.Attribute o m apos) (e :: es) [] pos) X.env = (do
      let ov ← eval o X.env
      standAt apos.atName
      let (f, first) ← holding [ov] (getMethod ov m pl)
      callWith pos f first (backTo pos (starEach (e :: es) X.env)) (backToKw pos (keywordEach [] X.env))) := by rfl) :
    E2 X (ZW X.K ex W) (.Call (.Attribute o m apos) (e :: es) [] pos) (jMethS C m sp dds ex ta t) := by
  refine pe_imp (pe_methE (E := WE W) he c hm F hr hb hd (L2N.passAt tk) ha hst hpl ht) fun σ H Q h => ?_
  obtain ⟨F, δ, μ, Q0, mm, q, k⟩ := h
  refine ⟨F, δ, μ, _, mm, q, ?_⟩
  rintro x μ0 F0 H0 xv ⟨⟨fs, hi, hl⟩, q0⟩ g0 w0 r0
  obtain ⟨a, dx, vs0, rfl, ha, rs⟩ := ins_at w0 r0 hi
  refine ⟨a, dx, vs0, rfl, ha, (rs.look m).2 hl, F0, δ, μ0, _, mm.step g0 w0, q0, ?_⟩
  intro as μ1 F1 H1 vs q1 g1 w1 r1
  refine ⟨F1, μ1, x :: (as ++ dds), _, ex δ, w1, .cons (r0.mono g1.ff) (r1.append (hdd F1)), q1, ?_, ?_⟩
  · intro d μ2 F2 H2 v q2 g2 w2 r2
    obtain ⟨F3, d3, μ3, g3, w3, r3, q3⟩ := q2 X.K F2 H2 v w2 r2
    exact k d3 μ3 F3 H2 v q3 (((g0.trans g1).trans g2).trans g3) w3 r3
  · intro C fs μ' F' H' dx vs e' g' w' hd hf n r
    exact mm.z δ σ C fs μ' F' H' dx vs e' ((g0.trans g1).trans g') w' (mm.env.mono ((g0.trans g1).trans g').ff) hd hf (n.of (g0.trans g1)) r
end
end
end J

/-! J24: what the top leaves of properties; the head's hook with them. -/
namespace J
open PySem PySem.Spec PyProof.Rows L2
/-- the getter of a property: its class's name, its own, the def -/
structure PropW where
  C : Str
  f : Str
  qual : Str
  params : Arguments
  body : List Stmt
  scope : Scope
def propG (K : PySem.W.Frag) (C f : Str) : Addr := match PySem.W.recIn K (He.ma K (He.ga K C) f) "property" with
  | some (.ref g :: _) => g
  | _ => 0
def propV (K : PySem.W.Frag) (C f : Str) : He.FnW := match K.lookup (propG K C f) with
  | some ⟨_, _, .func fd, _⟩ => some (fd.name, fd.qualname, fd.params, fd.body, fd.scope, fd.globals, fd.closure, fd.builtins)
  | _ => none
def PropW.val (d : PropW) : He.FnW := some (d.f, d.qual, d.params, .stmts d.body, d.scope, mainGlobals, [], builtinsNs)
def propB (K : PySem.W.Frag) (d : PropW) : Bool :=
  decide (PySem.W.findIn K (.ref (He.ga K d.C)) d.f = some (some (.ref (He.ma K (He.ga K d.C) d.f)))) && (decide (PySem.W.specialIn K (.ref (He.ma K (He.ga K d.C) d.f)) "__get__" = some (some (.builtin "property.__get__"))) && (decide (PySem.W.takesIn K (.ref (He.ma K (He.ga K d.C) d.f)) = some true) &&
  ((match PySem.W.recIn K (He.ma K (He.ga K d.C) d.f) "property" with
    | some (.ref _ :: _) => true
    | _ => false) && (PySem.W.keepIn K (.ref (propG K d.C d.f)) && (match K.lookup (propG K d.C d.f) with
    | some ⟨_, _, .func fd, _⟩ => PySem.W.codeIn K fd.code d.qual && (fd.defaults == .none && fd.kwdefaults == .none)
    | _ => false)))))
theorem propB_ok {K : PySem.W.Frag} {d : PropW} (e : propV K d.C d.f = d.val) (h : propB K d = true) : PropOf K (He.ga K d.C) d.f (He.ma K (He.ga K d.C) d.f) (propG K d.C d.f) ∧ ∃ fd, FunD K d.f d.qual d.params d.body d.scope [] [] (propG K d.C d.f) fd := by
  obtain ⟨h1, h⟩ := He.ba h
  obtain ⟨h2, h⟩ := He.ba h
  obtain ⟨h3, h⟩ := He.ba h
  obtain ⟨h4, h⟩ := He.ba h
  obtain ⟨h5, h6⟩ := He.ba h
  refine ⟨⟨of_decide_eq_true h1, of_decide_eq_true h2, of_decide_eq_true h3, ?_⟩, ?_⟩
  · unfold propG
    split at h4
    · rename_i g rest hr
      rw [hr]
      exact ⟨rest, rfl⟩
    · cases h4
  · unfold propV at e
    cases q : K.lookup (propG K d.C d.f) with
    | none =>
      rw [q] at h6
      cases h6
    | some o =>
      obtain ⟨oc, od, dt, osl⟩ := o
      rw [q] at h6 e
      cases dt with
      | func fd =>
        obtain ⟨n1, n2, n3, n4, n5, n6, n7, n8, n9, n10, n11, n12, n13, n14, n15⟩ := fd
        have e2 : (some (n1, n2, n3, n4, n5, n6, n7, n15) : He.FnW) = some (d.f, d.qual, d.params, .stmts d.body, d.scope, mainGlobals, [], builtinsNs) := e
        simp only [Option.some.injEq, Prod.mk.injEq] at e2
        obtain ⟨z1, z2, z3, z4, z5, z6, z7, z8⟩ := e2
        subst z1 z2 z3 z4 z5 z6 z7 z8
        obtain ⟨k1, k2⟩ := He.ba (show (PySem.W.codeIn K n13 d.qual && (n8 == .none && n9 == .none)) = true from h6)
        obtain ⟨k3, k4⟩ := He.ba k2
        have y8 : n8 = .none := beq_iff_eq.mp k3
        have y9 : n9 = .none := beq_iff_eq.mp k4
        subst y8 y9
        exact ⟨_, ⟨oc, od, .none, .none, n10, n11, n12, n13, n14, osl, rfl, q, k1, .inl ⟨rfl, rfl⟩, .inl rfl⟩, h5⟩
      | _ => cases h6
/-! ### the head's hook -/
abbrev AlP : Type := AlX × List He.FnW
def obsP (n : Nat) (fa : List He.Fa) (fn : List He.DefD) (ex : PySem.W.Frag → Bool) (su : List SupW) (pr : List PropW) (g : Addr → Option Obj) : AlP := (obsX n fa fn ex su g, pr.map fun d => propV (frX n g) d.C d.f)
def hookP (n : Nat) (fa : List He.Fa) (fn : List He.DefD) (ex : PySem.W.Frag → Bool) (su : List SupW) (pr : List PropW) : PySem.W.Hook where
  α := AlP
  obs := fun s => obsP n fa fn ex su pr s.heap.get?
  val := fun _ => ((He.valD fn, true, su.map SupW.val), pr.map PropW.val)
  says := fun _ h => ∃ K : PySem.W.Frag, K.In h ∧ He.SaysD fa fn K ∧ ex K = true ∧ (su.map fun d => supV K d.x) = su.map SupW.val ∧ (pr.map fun d => propV K d.C d.f) = pr.map PropW.val
  of := fun _ _ e => ⟨_, He.frG_in, congrArg (fun z : AlP => z.1.1) e, congrArg (fun z : AlP => z.1.2.1) e, congrArg (fun z : AlP => z.1.2.2) e, congrArg (fun z : AlP => z.2) e⟩
  keeps := fun _ _ _ ⟨K, hK, c⟩ k => ⟨K, PySem.W.Frag.In.keeps hK k, c⟩
theorem obsP_eq {n : Nat} {fa : List He.Fa} {fn : List He.DefD} {ex : PySem.W.Frag → Bool} {su : List SupW} {pr : List PropW} {g : Addr → Option Obj} {s : Shared} (h : ∀ a, g a = s.heap.get? a) : obsP n fa fn ex su pr g = (hookP n fa fn ex su pr).obs s := by
  have e : g = s.heap.get? := funext h
  rw [e] <;> rfl
theorem prop_at {K : PySem.W.Frag} {pr : List PropW} (e : (pr.map fun d => propV K d.C d.f) = pr.map PropW.val) (i : Nat) {d : PropW} (h : pr[i]? = some d := by rfl) : propV K d.C d.f = d.val := by
  have e2 : (pr.map fun d => propV K d.C d.f)[i]? = (pr.map PropW.val)[i]? := by rw [e]
  rw [List.getElem?_map, List.getElem?_map, h] at e2
  exact Option.some.inj e2
/-! ### defaults that are empty tuples -/
def etB (K : PySem.W.Frag) (a : Addr) : Bool := match K.lookup a with
  | some ⟨.type c, _, .seq its _, _⟩ => decide (c = "tuple") && decide (its.size = 0)
  | _ => false
theorem etB_ok {K : PySem.W.Frag} {a : Addr} (h : etB K a = true) (F : Hp) : Rep K F (.ref a) (.tup []) := by
  unfold etB at h
  cases q : K.lookup a with
  | none =>
    rw [q] at h
    cases h
  | some o =>
    obtain ⟨oc, od, dt, osl⟩ := o
    rw [q] at h
    cases oc with
    | type c =>
      cases dt with
      | seq its n =>
        obtain ⟨h1, h2⟩ := He.ba (show (decide (c = "tuple") && decide (its.size = 0)) = true from h)
        have e : its.size = 0 := of_decide_eq_true h2
        have e2 : its = #[] := Array.eq_empty_of_size_eq_zero e
        subst e2
        exact .tup (.inr ⟨_, #[], n, q, congrArg Value.type (of_decide_eq_true h1), rfl, Nat.zero_le _, .nil⟩) .nil
      | _ => cases h
    | _ => cases dt <;> cases h
end J

/-! J25: a step of the proof's own between two statements. -/
namespace J
open PySem PySem.Spec PyProof.Rows L2
def Gst (P : Sg → Mu → Prop) : Sg → Mu → Prop := fun δ μ => ∀ (K : PySem.W.Frag) (Z : Zw) F σ H, Mt K Z F σ H δ μ → ∃ F' δ' μ', Gr F H μ F' H μ' ∧ Mt K Z F' σ H δ' μ' ∧ P δ' μ'
section
variable {P : Sg → Mu → Prop} {δ : Sg} {μ μ' : Mu}
theorem Gst.of (q : P δ μ) : Gst P δ μ := fun _ _ F _ _ m => ⟨F, δ, μ, .refl, m, q⟩
theorem Gst.drop (l : Le μ' μ) (q : P δ μ') : Gst P δ μ := fun _ _ F _ _ m => by
  obtain ⟨w', g⟩ := m.wd.drop l
  exact ⟨F, δ, μ', g, m.step g w', q⟩
theorem set_self {α : Type} : ∀ {l : List α} {i : Nat} {x : α}, l[i]? = some x → l.set i x = l
  | [], _, _, h => by simp at h
  | y :: l, 0, x, h => by simp at h; subst h; rfl
  | y :: l, i + 1, x, h => by rw [List.set_cons_succ, set_self (by simpa using h)]
theorem Gst.lst {i : Nat} {p : Addr} {xs : List D} (hi : δ[i]? = some (some (.ref p))) (h : μ p = some (.lst xs)) (q : P (δ.set i (some (.lst xs))) (mdel μ p)) : Gst P δ μ := fun K Z F σ H m => by
  obtain ⟨fp, ho, h1, h2⟩ := m.wd.mts p _ h
  cases h2 with
  | lst rs =>
    obtain ⟨w', g⟩ := m.wd.freeze h h1
    have m' := m.step g w'
    obtain ⟨v, e1, r⟩ := m'.env.get hi
    cases r
    have e2 := m'.env.set (v := V.ref p) (Rep.lst upd_same (rs.mono g.ff)) i
    rw [set_self e1] at e2
    exact ⟨_, _, _, g, ⟨w', e2, m'.z⟩, q⟩
theorem Gst.dct {i : Nat} {p : Addr} {xs : List (Key × D)} (hi : δ[i]? = some (some (.ref p))) (h : μ p = some (.dct xs)) (q : P (δ.set i (some (.dct xs))) (mdel μ p)) : Gst P δ μ := fun K Z F σ H m => by
  obtain ⟨fp, ho, h1, h2⟩ := m.wd.mts p _ h
  cases h2 with
  | dct rs =>
    obtain ⟨w', g⟩ := m.wd.freeze h h1
    have m' := m.step g w'
    obtain ⟨v, e1, r⟩ := m'.env.get hi
    cases r
    have e2 := m'.env.set (v := V.ref p) (Rep.dct upd_same (rs.mono g.ff)) i
    rw [set_self e1] at e2
    exact ⟨_, _, _, g, ⟨w', e2, m'.z⟩, q⟩
theorem Gst.join (q : Gst (Gst P) δ μ) : Gst P δ μ := fun K Z F σ H m => by
  obtain ⟨F', δ', μ', g, m', q'⟩ := q K Z F σ H m
  obtain ⟨F2, δ2, μ2, g2, m2, q2⟩ := q' K Z F' σ H m'
  exact ⟨F2, δ2, μ2, g.trans g2, m2, q2⟩
end
def jSeqG (t u : TS2) : TS2 := fun D δ μ => t { D with nx := Gst (u D) } δ μ
theorem jbG {X : Cx} {Z : Zw} {st : Stmt} {rest : List Stmt} {t u : TS2} (h1 : S2 X Z st t) (h2 : B2 X Z rest u) : B2 X Z (st :: rest) (jSeqG t u) := by
  refine pss_imp (pss_cons h1 h2) ?_
  rintro D σ H ⟨F, δ, μ, D2, m, q, e⟩
  refine ⟨F, δ, μ, _, m, q, ?_, e.rt, e.bk, e.ct⟩
  intro δ' μ' F' σ' H' q' g' m'
  obtain ⟨F2, δ2, μ2, g2, m2, q2⟩ := q' X.K Z F' σ' H' m'
  exact ⟨F2, δ2, μ2, D2, m2, q2, e.step (g'.trans g2)⟩
theorem x_seqGo {n : Sg → Mu → Prop} {r : QE} {b c : Sg → Mu → Prop} {δ : Sg} {μ : Mu} {t u : TS2} (h : ∀ N : Sg → Mu → Prop, N = Gst (u { nx := n, rt := r, bk := b, ct := c }) → t { nx := N, rt := r, bk := b, ct := c } δ μ) : jSeqG t u { nx := n, rt := r, bk := b, ct := c } δ μ := h _ rfl
/-! ### many lists settled at once -/
def mdels (μ : Mu) : List Addr → Mu
  | [] => μ
  | p :: r => mdels (mdel μ p) r
theorem mdels_none {a : Addr} : ∀ {ps : List Addr} {μ : Mu}, μ a = none → mdels μ ps a = none
  | [], _, h => h
  | p :: r, μ, h => mdels_none (ps := r) (by unfold mdel; split <;> first | rfl | exact h)
theorem mdels_ne {a : Addr} : ∀ {ps : List Addr} {μ : Mu}, a ∉ ps → mdels μ ps a = μ a
  | [], _, _ => rfl
  | p :: r, μ, h => by
    rw [mdels, mdels_ne (fun z => h (List.mem_cons_of_mem _ z))]
    unfold mdel
    rw [if_neg (fun e : a = p => h (List.mem_cons.mpr (.inl e)))]
theorem mdels_mem {a : Addr} : ∀ {ps : List Addr} {μ : Mu}, a ∈ ps → mdels μ ps a = none
  | p :: r, μ, h => by
    rw [mdels]
    by_cases hr : a ∈ r
    · exact mdels_mem hr
    · rw [mdels_ne hr]
      rcases List.mem_cons.mp h with e | h
      · unfold mdel
        rw [if_pos e]
      · exact absurd h hr
theorem freeze_all {K : PySem.W.Frag} {H : Hp} : ∀ (ps : List (Addr × List D)) {F : Hp} {μ : Mu}, Wd K F H μ → (ps.map (·.1)).Nodup → (∀ q ∈ ps, μ q.1 = some (.lst q.2)) → ∃ F', Gr F H μ F' H (mdels μ (ps.map (·.1))) ∧ Wd K F' H (mdels μ (ps.map (·.1))) ∧ ∀ q ∈ ps, Rep K F' (.ref q.1) (.lst q.2)
  | [], F, μ, w, _, _ => ⟨F, .refl, w, fun q hq => by simp at hq⟩
  | (p, xs) :: r, F, μ, w, hn, hm => by
    have hp : μ p = some (.lst xs) := hm (p, xs) (List.mem_cons_self ..)
    obtain ⟨fp, ho, h1, h2⟩ := w.mts p _ hp
    cases h2 with
    | lst rs =>
      obtain ⟨w', g⟩ := w.freeze hp h1
      rw [List.map_cons, List.nodup_cons] at hn
      obtain ⟨F', g2, w2, h3⟩ := freeze_all r w' hn.2 fun q hq => by
        have : q.1 ≠ p := fun e => hn.1 (List.mem_map.mpr ⟨q, hq, e⟩)
        unfold mdel
        rw [if_neg this]
        exact hm q (List.mem_cons_of_mem _ hq)
      refine ⟨F', g.trans g2, w2, fun q hq => ?_⟩
      rcases List.mem_cons.mp hq with rfl | hq
      · exact (Rep.lst upd_same (rs.mono g.ff)).mono g2.ff
      · exact h3 q hq
theorem repK_refs {K : PySem.W.Frag} {F : Hp} : ∀ {us : List (Key × V)} {ks : List (Key × Addr × List D)}, RepK K F us (ks.map fun k => (k.1, .ref k.2.1)) → (∀ k ∈ ks, Rep K F (.ref k.2.1) (.lst k.2.2)) → RepK K F us (ks.map fun k => (k.1, .lst k.2.2))
  | _, [], .nil, _ => .nil
  | _, k :: ks, .cons r t, h => by
    cases r
    exact .cons (h k (List.mem_cons_self ..)) (repK_refs t fun k hk => h k (List.mem_cons_of_mem _ hk))
/-- a dict of lists, settled with them -/
theorem Upd.dctL {Q : QE} {p : Addr} {μ : Mu} {ks : List (Key × Addr × List D)} (h : μ p = some (.dct (ks.map fun k => (k.1, .ref k.2.1)))) (hn : (ks.map fun k => k.2.1).Nodup) (hm : ∀ k ∈ ks, μ k.2.1 = some (.lst k.2.2))
    (q : Q (.dct (ks.map fun k => (k.1, .lst k.2.2))) (mdel (mdels μ (ks.map fun k => k.2.1)) p)) : Upd Q (.ref p) μ := fun K F H v w r => by
  cases r
  have e1 : (ks.map (·.2)).map (·.1) = ks.map fun k => k.2.1 := by rw [List.map_map]; rfl
  obtain ⟨F1, g1, w1, h1⟩ := freeze_all (ks.map (·.2)) w (by rw [e1]; exact hn) fun q hq => by
    obtain ⟨k, hk, rfl⟩ := List.mem_map.mp hq
    exact hm k hk
  rw [e1] at g1 w1
  have hp : p ∉ ks.map fun k => k.2.1 := fun hp => by
    obtain ⟨k, hk, e⟩ := List.mem_map.mp hp
    have := hm k hk
    rw [e, h] at this
    cases this
  have hp1 : mdels μ (ks.map fun k => k.2.1) p = some (.dct (ks.map fun k => (k.1, .ref k.2.1))) := (mdels_ne hp).trans h
  obtain ⟨fp, ho, h3, h4⟩ := w1.mts p _ hp1
  cases h4 with
  | dct rs =>
    obtain ⟨w', g⟩ := w1.freeze hp1 h3
    refine ⟨_, _, _, g1.trans g, w', .dct upd_same ?_, q⟩
    exact repK_refs (rs.mono g.ff) fun k hk => (h1 k.2 (List.mem_map.mpr ⟨k, hk, rfl⟩)).mono g.ff
end J

/-! J26: (a, b, ..) = a tuple or a list; words of objects and dict comprehensions. -/
namespace J
open PySem PySem.Spec PyProof.Rows L2
def kTL (n : Nat) (t : TGs2) : TG2 := fun d δ μ Q => ∃ xs, (d = .tup xs ∨ SeqAt μ d xs) ∧ xs.length = n ∧ t xs δ μ Q
section
variable {X : Cx} {Z : Zw}
theorem pg_or {tg : Expr} {g1 g2 : TG} (h1 : PG X tg g1) (h2 : PG X tg g2) : PG X tg (fun v σ H Q => g1 v σ H Q ∨ g2 v σ H Q) := ⟨fun pins s σ H v u Q I r hw => hw.elim (h1.run pins s σ H v u Q I r) (h2.run pins s σ H v u Q I r)⟩
theorem kgtl {es : List Expr} {k : Nat} {t : TGs2} {n : Nat} {pos : Pos} (hc : X.calm = true) (h : PGs X es (lowGs X.K Z t))
    (hn : (assignEach es X.env).length = n := by rfl) (hst : (assignEach es X.env).findIdx? (·.1) = none := by rfl) : G2 X Z (.Tuple es k pos) (kTL n t) := by
  refine pg_imp (pg_or (pg_tup hc h hn hst) (pg_unl hc h hn hst)) ?_
  rintro v σ H Q ⟨F, δ, μ, d, Q0, m, r, ⟨xs, hd, hl, q⟩, k⟩
  rcases hd with rfl | hd
  · cases r with
    | tup hq rs => exact .inl ⟨_, _, rfl, sqt_mono m.wd.sub hq, by rw [rs.length]; exact hl, F, δ, μ, xs, Q0, m, rs, q, k⟩
  · obtain ⟨a, vs, rfl, ha, rs⟩ := seq_at m.wd r hd
    exact .inr ⟨a, vs, rfl, ha, by rw [rs.length]; exact hl, F, δ, μ, xs, Q0, m, rs, q, k⟩
end
section
variable {D0 : Ends2} {δ : Sg} {μ : Mu} {Q : QE} {QS : Sg → Mu → Prop} {C f m : Str}
theorem x_ktl {n : Nat} {u : TGs2} {d : D} {xs : List D} (hd : d = .tup xs ∨ SeqAt μ d xs) (hl : xs.length = n) (h : u xs δ μ QS) : kTL n u d δ μ QS := ⟨xs, hd, hl, h⟩
theorem x_setF {ta tv : TE2} (h : tv δ μ fun y μ1 => ta δ μ1 fun x μ2 => ∃ a fs, x = .ref a ∧ μ2 a = some (.ins C fs) ∧ fs.length < 1000 ∧ D0.nx δ (mup μ2 a (.ins C (putD f y fs)))) : jSetF C f ta tv D0 δ μ := h
theorem x_fld {ta : TE2} (h : ta δ μ fun x μ1 => ∃ fs d, IsIns x C fs μ1 ∧ fs.lookup f = some d ∧ Q d μ1) : jFld C f ta δ μ Q := h
theorem x_fldV {k : Nat} {fs : List (Str × D)} {d : D} (hd : δ[k]? = some (some (.ins C fs))) (e : fs.lookup f = some d) (h : Q d μ) : jFld C f (jVar k) δ μ Q := ⟨_, hd, fs, d, .inl rfl, e, h⟩
theorem x_fldM {k : Nat} {a : Addr} {fs : List (Str × D)} {d : D} (hd : δ[k]? = some (some (.ref a))) (ha : μ a = some (.ins C fs)) (e : fs.lookup f = some d) (h : Q d μ) : jFld C f (jVar k) δ μ Q := ⟨_, hd, fs, d, .inr ⟨a, rfl, ha⟩, e, h⟩
theorem g_fld {k : Nat} (h : jFld C f (jVar k) δ μ Q) : jFld C f (jVar k) δ μ Q := h
theorem x_prop {sp : Sp2} {ex : Ex2} {ta : TE2} (h : ta δ μ fun x μ1 => (∃ fs, IsIns x C fs μ1) ∧ sp [x] μ1 (Upd Q) ex) : jProp C sp ex ta δ μ Q := h
theorem x_meth {sp : Sp2} {dds : List D} {ex : Ex2} {ta : TE2} {t : TA2} (h : ta δ μ fun x μ1 => (∃ fs, IsIns x C fs μ1 ∧ fs.lookup m = none) ∧ t δ μ1 fun ds μ2 => sp (x :: (ds ++ dds)) μ2 (Upd Q) ex) : jMeth C m sp dds ex ta t δ μ Q := h
theorem x_methS {sp : Sp2} {dds : List D} {ex : Sg → Ex2} {ta : TE2} {t : TA2} (h : ta δ μ fun x μ1 => (∃ fs, IsIns x C fs μ1 ∧ fs.lookup m = none) ∧ t δ μ1 fun ds μ2 => sp (x :: (ds ++ dds)) μ2 (Upd Q) (ex δ)) : jMethS C m sp dds ex ta t δ μ Q := h
theorem x_make {sp : Sp2} {dds : List D} {ex : Ex2} {t : TA2} (h : t δ μ fun ds μ1 => ∀ x, μ1 x = none → sp (.ref x :: (ds ++ dds)) (mup μ1 x (.ins C [])) (fun d μ2 => d = .non ∧ Upd Q (.ref x) μ2) ex) : jMake C sp dds ex t δ μ Q := h
theorem x_makeS {sp : Sp2} {dds : List D} {ex : Sg → Ex2} {t : TA2} (h : t δ μ fun ds μ1 => ∀ x, μ1 x = none → sp (.ref x :: (ds ++ dds)) (mup μ1 x (.ins C [])) (fun d μ2 => d = .non ∧ Upd Q (.ref x) μ2) (ex δ)) : jMakeS C sp dds ex t δ μ Q := h
theorem x_dc {ti : TI2} {g : TG2} {tt : TT2} {tk tv : TE2} {vs : List Nat} (h : ti δ μ fun items G μ1 => jDcl g tt tk tv (wipeD δ vs) G (fun acc μ' => NewD acc μ' Q) items [] μ1) : jDc ti g tt tk tv vs δ μ Q := h
end
theorem dc_inv {g : TG2} {tt : TT2} {tk tv : TE2} {δ0 : Sg} {G : Mu → Prop} {kk : List (Key × D) → Mu → Prop} (P : List D → List (Key × D) → Mu → Prop) (hG : ∀ r acc μ, P r acc μ → G μ)
    (hs : ∀ x r acc μ, P (x :: r) acc μ → ∀ N : List (Key × D) → Mu → Prop, (∀ acc' μ', P r acc' μ' → N acc' μ') → g x δ0 μ fun δ1 μ1 => tt δ1 μ1 fun b μ2 => if b = true then tk δ1 μ2 fun y μ3 => tv δ1 μ3 fun z μ4 => ∃ k, keyD y = some k ∧ acc.length < sizeLine ∧ N (putKD acc k z) μ4 else N acc μ2)
    (hd : ∀ acc μ, P [] acc μ → kk acc μ) : ∀ (xs : List D) (acc : List (Key × D)) (μ : Mu), P xs acc μ → jDcl g tt tk tv δ0 G kk xs acc μ
  | [], acc, μ, p => ⟨hG _ _ _ p, hd acc μ p⟩
  | x :: r, acc, μ, p => ⟨hG _ _ _ p, hs x r acc μ p (fun acc' μ' => jDcl g tt tk tv δ0 G kk r acc' μ') fun acc' μ' p' => dc_inv P hG hs hd r acc' μ' p'⟩
/-- a comprehension over a list that is g of zs: f tells each element -/
theorem lc_mapZ {α : Type} {tg : TG2} {te : TE2} {δ0 : Sg} {k : List D → Mu → Prop} {μ : Mu} (zs : List α) (g f : α → D) (hl : zs.length < sizeLine)
    (hs : ∀ z ∈ zs, ∀ Y : D → Mu → Prop, Y (f z) μ → tg (g z) δ0 μ fun δ1 μ1 => te δ1 μ1 Y) (hd : k (zs.map f) μ) : jLcl tg jYes te δ0 (fun _ => True) k (zs.map g) [] μ := by
  refine lc_inv (fun r acc μ' => μ' = μ ∧ ∃ us : List α, r = us.map g ∧ acc ++ us.map f = zs.map f ∧ acc.length + us.length ≤ zs.length ∧ ∀ u ∈ us, u ∈ zs) (fun _ _ _ _ => trivial) ?_ ?_ (zs.map g) [] μ ⟨rfl, zs, rfl, rfl, by simp, fun _ h => h⟩
  · rintro x r acc μ' ⟨rfl, us, hr, he, hz, hm⟩ N hN
    cases us with
    | nil => cases hr
    | cons u us =>
      rw [List.map_cons] at hr
      injection hr with e1 e2
      subst e1 e2
      have h := hs u (hm u (List.mem_cons_self ..)) (fun y μ3 => acc.length < sizeLine ∧ N (acc ++ [y]) μ3) ⟨by simp only [List.length_cons] at hz; omega, hN _ _ ⟨rfl, us, rfl, by rw [← he]; simp, by simp only [List.length_cons, List.length_append, List.length_nil] at hz ⊢; omega, fun z hz' => hm z (List.mem_cons_of_mem _ hz')⟩⟩
      exact h
  · rintro acc μ' ⟨rfl, us, hr, he, _, _⟩
    cases us with
    | cons u us => cases hr
    | nil =>
      have e2 : acc = zs.map f := by simpa using he
      rw [e2]
      exact hd
theorem x_insert {a : Addr} {xs : List D} {i : Int} {d : D} {μ : Mu} {Q : QE} (ha : μ a = some (.lst xs)) (hl : xs.length < sizeLine) (h0 : 0 ≤ i) (h1 : i < 2 ^ 62) (h : Q .non (mup μ a (.lst (xs.take i.toNat ++ [d] ++ xs.drop i.toNat)))) : insert1 (.ref a) [.int i, d] μ Q := ⟨a, xs, i, d, rfl, rfl, ha, hl, h0, h1, h⟩
end J

/-! J27: the addresses that the head's hook looks at, found with a bit mask. -/
namespace J
open PySem PySem.Spec PyProof.Rows L2
def insM (st : Nat × List Addr) (a : Addr) : Nat × List Addr := match Nat.beq (Nat.land (Nat.shiftRight st.1 a) 1) 1 with
  | true => st
  | false => (Nat.lor st.1 (Nat.shiftLeft 1 a), a :: st.2)
def growM (g : Addr → Option Obj) : List Addr → Nat × List Addr → Nat × List Addr
  | [], st => st
  | a :: r, st => growM g r (match g a with
    | some o => (He.refsD o).foldl insM st
    | none => st)
/-- n rounds from what is new; all that is found -/
def asM (g : Addr → Option Obj) : Nat → Nat → List Addr → List Addr
  | 0, _, fr => fr
  | n + 1, m, fr => match growM g fr (m, []) with
    | (m2, fr2) => fr ++ asM g n m2 fr2
def frM (n : Nat) (g : Addr → Option Obj) : PySem.W.Frag := He.frG g (cStatics :: asM g n (Nat.shiftLeft 1 mainGlobals) [mainGlobals])
def obsM (n : Nat) (fa : List He.Fa) (fn : List He.DefD) (ex : PySem.W.Frag → Bool) (su : List SupW) (pr : List PropW) (g : Addr → Option Obj) : AlP := ((He.obsD fa fn (frM n g), ex (frM n g), su.map fun d => supV (frM n g) d.x), pr.map fun d => propV (frM n g) d.C d.f)
def hookM (n : Nat) (fa : List He.Fa) (fn : List He.DefD) (ex : PySem.W.Frag → Bool) (su : List SupW) (pr : List PropW) : PySem.W.Hook where
  α := AlP
  obs := fun s => obsM n fa fn ex su pr s.heap.get?
  val := fun _ => ((He.valD fn, true, su.map SupW.val), pr.map PropW.val)
  says := fun _ h => ∃ K : PySem.W.Frag, K.In h ∧ He.SaysD fa fn K ∧ ex K = true ∧ (su.map fun d => supV K d.x) = su.map SupW.val ∧ (pr.map fun d => propV K d.C d.f) = pr.map PropW.val
  of := fun _ _ e => ⟨_, He.frG_in, congrArg (fun z : AlP => z.1.1) e, congrArg (fun z : AlP => z.1.2.1) e, congrArg (fun z : AlP => z.1.2.2) e, congrArg (fun z : AlP => z.2) e⟩
  keeps := fun _ _ _ ⟨K, hK, c⟩ k => ⟨K, PySem.W.Frag.In.keeps hK k, c⟩
theorem obsM_eq {n : Nat} {fa : List He.Fa} {fn : List He.DefD} {ex : PySem.W.Frag → Bool} {su : List SupW} {pr : List PropW} {g : Addr → Option Obj} {s : Shared} (h : ∀ a, g a = s.heap.get? a) : obsM n fa fn ex su pr g = (hookM n fa fn ex su pr).obs s := by
  have e : g = s.heap.get? := funext h
  rw [e] <;> rfl
end J

/-! J28: x in o by an own __contains__; a def with keyword-only parameters that may raise. -/
namespace J
open PySem PySem.Spec PyProof.Rows L2
open PySem.W (InstAt looks_findIn bind_fn)
section
variable {M : Model} {A : Around} {E : Value → Shared → Prop} {s : Shared} {K : PySem.W.Frag} {x C f : Addr} {ox : Obj} {od : Option Obj} {v : Value}
theorem contains_own {Q : Bool → Shared → Prop} (X : K.In s.heap) (I : InstAt s.heap x ox C od) (hs : PySem.W.findIn K (.ref C) "__contains__" = some (some (.ref f))) (hf : PySem.W.isFn K (.ref f) = true)
    (h : wpAny M A (call (.ref f) [.ref x, v]) (fun r s' => ∃ b, r = .bool b ∧ Q b s') E s) : wpAny M A (contains (.ref x) v) Q E s := by
  unfold contains
  refine wpAny_holding ?_
  have e0 : stdlibNamesSay? (.ref x) v = none := rfl
  rw [e0]
  simp only [pure_bind]
  have sp : PySem.W.Looks M s.heap (specialOf (.ref x) "__contains__") (some (.ref f)) := by
    unfold specialOf
    exact PySem.W.Looks.andThen I.type (looks_findIn X hs)
  refine wpAny_bind (sp.here ?_)
  have e1 : ((some (Value.ref f) : Option Value) == some .none) = false := rfl
  rw [e1]
  simp only [Bool.false_eq_true, if_false]
  refine wpAny_bind ?_
  unfold callSpecialUnlessNone?
  refine wpAny_bind (sp.here ?_)
  refine wpAny_holding (wpAny_bind ((bind_fn X _ (beq_iff_eq.mp hf)).here ?_))
  have e2 : ((Value.ref f) == Value.none) = false := rfl
  simp only [e2, Bool.false_eq_true, if_false]
  refine wpAny_bind (wpAny_mono h (fun r s' h' => ?_) fun _ _ e => e)
  obtain ⟨b, rfl, q⟩ := h'
  exact wpAny_pure (wpAny_truthy_bool q)
end
/-- x in y, y an instance of the class named C -/
def inO (neg : Bool) (C : Str) (sp : Sp2) : O2 := fun x y μ Q => (∃ fs, IsIns y C fs μ) ∧ sp [y, x] μ (Upd fun d μ' => ∃ b, d = .bl b ∧ Q (.bl (neg ^^ b)) μ') noEx
section
variable {X : Cx} {CX : CXT} {k : Nat} {f : Addr} {fd : FuncData} {ps : List Str} {sp : Sp2} {C : Str}
theorem run_inO {neg : Bool} {pins : List (Addr × Obj)} {s : Shared} {σ : Sv} {H : Hp} {x y : V} {v u : Value} {Q : VK} (hm : Meth X.K (He.ga X.K C) "__contains__" f) (F : FnOk X.prog X.w X.K X.mg X.base CX k f fd ps (lowSp X.K sp)) (hr : Room k X.A) (hb : Binds X.K fd ps []) (hx : Passes CX X fun _ _ _ => False)
    (I : Inv X pins σ H s) (rx : RelV x v) (ry : RelV y u) (h : lowO2 X.K (inO neg C sp) x y H Q) : wpAny (model X.prog X.w) X.A (contains u v) (fun b s' => ∃ H', Inv X pins σ H' s' ∧ Q (.bl (neg ^^ b)) H') X.xe s := by
  obtain ⟨F0, μ, d, e, Q0, w, r1, r2, ⟨⟨fs, hi⟩, q⟩, k0⟩ := h
  obtain ⟨a, dx, vs, rfl, ha, rs⟩ := ins_at w r2 hi
  cases ry
  obtain ⟨mA, J, _⟩ := ins_get I.hok ha
  obtain ⟨od, J, _⟩ := J.look
  refine contains_own I.kIn J hm.at_ hm.fn ?_
  have hs : lowSp X.K sp ([.ref a, x] ++ []) H (fun z H' => ∃ b, z = .bl b ∧ Q (.bl (neg ^^ b)) H') (fun _ _ _ => False) := by
    refine ⟨F0, μ, [e, d], _, noEx, w, .cons r2 (.cons r1 .nil), q, ?_, ZE.none⟩
    intro d2 μ2 F2 H2 z q2 g2 w2 rz
    obtain ⟨F3, d3, μ3, g3, w3, r3, b, rfl, q3⟩ := q2 X.K F2 H2 z w2 rz
    cases r3
    exact ⟨b, rfl, k0 _ μ3 F3 H2 _ q3 (g2.trans g3) w3 .bl⟩
  refine wpAny_mono (run_fnSD (E := fun _ => fun _ _ _ => False) F hr hb .nil (fun pins H s e s' I c => hx pins σ H s e s' I c) I (us := [.ref a, v]) (vs := [.ref a, x]) (.cons (show L2.RelV (V.ref a) (.ref a) from rfl) (.cons rx .nil)) hs) (fun r s' z => ?_) fun _ _ e => e
  obtain ⟨z, H', I', rz, b, rfl, q'⟩ := z
  cases rz
  exact ⟨b, rfl, H', I', q'⟩
theorem oinO (hm : Meth X.K (He.ga X.K C) "__contains__" f) (F : FnOk X.prog X.w X.K X.mg X.base CX k f fd ps (lowSp X.K sp)) (hr : Room k X.A) (hb : Binds X.K fd ps []) (hx : Passes CX X fun _ _ _ => False) : OpR X (compareOp .In) (lowO2 X.K (inO false C sp)) := by
  intro pins s σ H x y v u Q I rx ry h
  show wpAny (model X.prog X.w) X.A (contains u v >>= fun b => pure (Value.bool b)) (EP X pins σ Q) X.xe s
  refine wpAny_bind (wpAny_mono (run_inO hm F hr hb hx I rx ry h) (fun b s' z => ?_) fun _ _ e => e)
  obtain ⟨H', I', q⟩ := z
  rw [Bool.false_xor] at q
  exact wpAny_pure ⟨.bl b, H', I', rfl, q⟩
theorem oninO (hm : Meth X.K (He.ga X.K C) "__contains__" f) (F : FnOk X.prog X.w X.K X.mg X.base CX k f fd ps (lowSp X.K sp)) (hr : Room k X.A) (hb : Binds X.K fd ps []) (hx : Passes CX X fun _ _ _ => False) : OpR X (compareOp .NotIn) (lowO2 X.K (inO true C sp)) := by
  intro pins s σ H x y v u Q I rx ry h
  show wpAny (model X.prog X.w) X.A (contains u v >>= fun b => pure (Value.bool (!b))) (EP X pins σ Q) X.xe s
  refine wpAny_bind (wpAny_mono (run_inO hm F hr hb hx I rx ry h) (fun b s' z => ?_) fun _ _ e => e)
  obtain ⟨H', I', q⟩ := z
  rw [Bool.true_xor] at q
  exact wpAny_pure ⟨.bl (!b), H', I', rfl, q⟩
end
/-! ### f(e, ..) with keyword-only parameters, that may raise -/
section
variable {X : Cx} {CX : CXT} {k n : Nat} {f : Addr} {fd : FuncData} {ps ks : List Str} {spv : Sp} {E : Sv → XK} {x : Str} {p pos : Pos} {e : Expr} {es : List Expr} {kws : List Keyword} {t tk : TA} {g : List Value → List Value → List Value} {gV : List V → List V → List V}
theorem run_fnSN {pins : List (Addr × Obj)} {σ : Sv} {H : Hp} {s : Shared} {Q : VK} {us ws : List Value} {vs zs : List V} (F : FnOk X.prog X.w X.K X.mg X.base CX k f fd ps spv) (hr : Room k X.A) (hb : KBn X.K fd ps n ks g gV) (hx : PassesAt CX X σ (E σ))
    (I : Inv X pins σ H s) (r : Vals vs us) (rz : Vals zs ws) (l1 : vs.length = n) (l2 : zs.length = ks.length) (h : spv (gV vs zs) H Q (E σ)) : wpAny (model X.prog X.w) X.A (call (.ref f) us (ks.zip ws)) (EP X pins σ Q) X.xe s := by
  have r2 := hb.rel r rz
  refine wpAny_call (codeAny_mono (F.run X.A X.stack s H ⟨us, ks.zip ws⟩ (g us ws) (gV vs zs) Q (E σ) hr I.env0 (hb.to s us ws I.kIn (r.length.symm.trans l1) (rz.length.symm.trans l2)) r2 h) fun r s' hq => ?_)
  cases r with
  | error e => exact hx pins H s e s' I hq
  | ok fl =>
    cases fl with
    | ret u => exact I.after hq
    | next => exact False.elim hq
    | brk => exact False.elim hq
    | cont => exact False.elim hq
def tCallSN (n m : Nat) (sp : Sp) (gV : List V → List V → List V) (E : Sv → XK) (t tk : TA) : TE := fun σ H Q => t σ H fun vs H1 => tk σ H1 fun zs H2 => vs.length = n ∧ zs.length = m ∧ sp (gV vs zs) H2 Q (E σ)
theorem pe_callSN (F : FnOk X.prog X.w X.K X.mg X.base CX k f fd ps spv) (hr : Room k X.A) (hg : Gl X x) (hm : X.mg x = some (.ref f)) (hk : PySem.W.keepIn X.K (.ref f) = true) (hb : KBn X.K fd ps n ks g gV) (hx : ∀ σ, PassesAt CX X σ (E σ))
    (ha : PA X (e :: es) t) (hkw : PK X kws tk) (hall : (backToKw pos (keywordEach kws X.env)).all (·.1.isSome) = true := by rfl) (hks : (backToKw pos (keywordEach kws X.env)).filterMap (·.1) = ks := by rfl)
    (hdb : (x == ("__debug__" : Str)) = false := by decide) (he : starEach (e :: es) X.env = (false, eval e X.env) :: starEach es X.env := by rfl)
    (hpl : ((backTo pos (starEach (e :: es) X.env)).any (·.1) || (backToKw pos (keywordEach kws X.env)).any (·.1.isNone)) = false := by rfl) :
    PE X (.Call (.Name x p) (e :: es) kws pos) (tCallSN n ks.length spv gV E t tk) := by
  refine ⟨fun pins s σ H Q I h => ?_⟩
  refine wpAny_Call_Name_kw (ld_glob I hg hm ?_ hdb)
  refine PySem.W.callWith_KW (h₀ := X.base) I.ok.mod.kin hk hall (thn (ha.run pos pins s σ H _ I h) fun us s1 ⟨vs, H1, I1, r, q⟩ => ?_) hpl he
  refine thn (hkw.run pos pins s1 σ H1 _ I1 q) fun ws s2 ⟨zs, H2, I2, rz, l1, l2, q2⟩ => ⟨I2.kIn, ?_⟩
  rw [hks]
  exact run_fnSN F hr hb (hx σ) I2 r rz l1 l2 q2
end
def jCallSD (sp : Sp2) (dds : List D) (ex : Sg → Ex2) (t : TA2) : TE2 := fun δ μ Q => t δ μ fun ds μ1 => sp (ds ++ dds) μ1 (Upd Q) (ex δ)
def jCallSK (n m : Nat) (sp : Sp2) (ex : Sg → Ex2) (t tk : TA2) : TE2 := fun δ μ Q => t δ μ fun ds μ1 => tk δ μ1 fun zs μ2 => ds.length = n ∧ zs.length = m ∧ sp (ds ++ zs) μ2 (Upd Q) (ex δ)
section
variable {X : Cx} {Z : Zw} {ex : Sg → Ex2} {W : WX} {k n : Nat} {f : Addr} {fd : FuncData} {ps ks : List Str} {sp : Sp2} {x : Str} {q pos kpos : Pos} {e : Expr} {es : List Expr} {kws : List Keyword} {t tk2 : TA2} {te : TE2} {dds : List D} {dvs : List V} {ds : List Value} {nm : Option Str}
theorem k2_one (he : E2 X Z e te) : PK X [⟨nm, e, kpos⟩] (lowA X.K Z (jCons te jNil)) :=
  ⟨fun pos pins s σ H Q I h => (pk_cons (nm := nm) (kpos := kpos) he pk_nil).run pos pins s σ H Q I (by
    obtain ⟨F, δ, μ, Q0, m, h, k⟩ := h
    refine ⟨F, δ, μ, _, m, h, ?_⟩
    intro d μ1 F1 H1 v q1 g1 w1 r1
    exact k [d] μ1 F1 H1 [v] q1 g1 w1 (.cons r1 .nil))⟩
theorem jcallSD (F : FnOk X.prog X.w X.K X.mg X.base (L2N.CX X.prog X.w) k f fd ps (lowSp X.K sp)) (tk : L2N.Takes X W) (hr : Room k X.A) (hg : Gl X x) (hm : X.mg x = some (.ref f)) (hk : PySem.W.keepIn X.K (.ref f) = true) (hb : Binds X.K fd ps ds) (hd : Vals dvs ds) (hdd : ∀ F, Reps X.K F dvs dds)
    (ha : A2 X (ZW X.K ex W) (e :: es) t) (hdb : (x == ("__debug__" : Str)) = false := by decide) (he : starEach (e :: es) X.env = (false, eval e X.env) :: starEach es X.env := by rfl) (hpl : (backTo pos (starEach es X.env)).any (·.1) = false := by rfl) :
    E2 X (ZW X.K ex W) (.Call (.Name x q) (e :: es) [] pos) (jCallSD sp dds ex t) := by
  refine pe_imp (pe_callSD (E := WE W) F hr hg hm hk hb hd (L2N.passAt tk) ha hdb he hpl) fun σ H Q h => ?_
  obtain ⟨F, δ, μ, Q0, m, h, k⟩ := h
  refine ⟨F, δ, μ, _, m, h, ?_⟩
  intro as μ1 F1 H1 vs q1 g1 w1 r1
  refine ⟨F1, μ1, as ++ dds, _, ex δ, w1, r1.append (hdd F1), q1, ?_, ?_⟩
  · intro d μ2 F2 H2 v q2 g2 w2 r2
    obtain ⟨F3, d3, μ3, g3, w3, r3, q3⟩ := q2 X.K F2 H2 v w2 r2
    exact k d3 μ3 F3 H2 v q3 ((g1.trans g2).trans g3) w3 r3
  · intro C fs μ' F' H' dx vs e' g' w' hd hf n r
    exact m.z δ σ C fs μ' F' H' dx vs e' (g1.trans g') w' (m.env.mono (g1.trans g').ff) hd hf (n.of g1) r
theorem jcallSK (F : FnOk X.prog X.w X.K X.mg X.base (L2N.CX X.prog X.w) k f fd ps (lowSp X.K sp)) (tk : L2N.Takes X W) (hr : Room k X.A) (hg : Gl X x) (hm : X.mg x = some (.ref f)) (hk : PySem.W.keepIn X.K (.ref f) = true) (hb : KBn X.K fd ps n ks (fun us ws => us ++ ws) (fun vs zs => vs ++ zs))
    (ha : A2 X (ZW X.K ex W) (e :: es) t) (hkw : PK X kws (lowA X.K (ZW X.K ex W) tk2)) (hall : (backToKw pos (keywordEach kws X.env)).all (·.1.isSome) = true := by rfl) (hks : (backToKw pos (keywordEach kws X.env)).filterMap (·.1) = ks := by rfl)
    (hdb : (x == ("__debug__" : Str)) = false := by decide) (he : starEach (e :: es) X.env = (false, eval e X.env) :: starEach es X.env := by rfl)
    (hpl : ((backTo pos (starEach (e :: es) X.env)).any (·.1) || (backToKw pos (keywordEach kws X.env)).any (·.1.isNone)) = false := by rfl) :
    E2 X (ZW X.K ex W) (.Call (.Name x q) (e :: es) kws pos) (jCallSK n ks.length sp ex t tk2) := by
  refine pe_imp (pe_callSN (E := WE W) F hr hg hm hk hb (L2N.passAt tk) ha hkw hall hks hdb he hpl) fun σ H Q h => ?_
  obtain ⟨F, δ, μ, Q0, m, h, k⟩ := h
  refine ⟨F, δ, μ, _, m, h, ?_⟩
  intro as μ1 F1 H1 vs q1 g1 w1 r1
  refine ⟨F1, δ, μ1, _, m.step g1 w1, q1, ?_⟩
  rintro bs μ2 F2 H2 zs ⟨l1, l2, q2⟩ g2 w2 r2
  refine ⟨by rw [r1.length]; exact l1, by rw [r2.length]; exact l2, F2, μ2, as ++ bs, _, ex δ, w2, (r1.mono g2.ff).append r2, q2, ?_, ?_⟩
  · intro d μ3 F3 H3 v q3 g3 w3 r3
    obtain ⟨F4, d4, μ4, g4, w4, r4, q4⟩ := q3 X.K F3 H3 v w3 r3
    exact k d4 μ4 F4 H3 v q4 (((g1.trans g2).trans g3).trans g4) w4 r4
  · intro C fs μ' F' H' dx vs e' g' w' hd hf n r
    exact m.z δ σ C fs μ' F' H' dx vs e' ((g1.trans g2).trans g') w' (m.env.mono ((g1.trans g2).trans g').ff) hd hf (n.of (g1.trans g2)) r
theorem kbn {K : PySem.W.Frag} {x qual : Str} {params : Arguments} {body : List Stmt} {scope : Scope} {kws : List (Str × V)} {f : Addr} {fd : FuncData} {ps ks : List Str} {n : Nat} (F : FunD K x qual params body scope [] kws f fd)
    (h : ∀ (kV doc pm : Value) (an : Option Addr) (cdv ct : Value) (us ws : List Value), us.length = n → ws.length = ks.length → bindArgs (PySem.W.fnOf x qual params body scope .none kV doc pm an cdv ct) ⟨us, ks.zip ws⟩ = pure (ps.zip (us ++ ws))) : KBn K fd ps n ks (fun us ws => us ++ ws) (fun vs zs => vs ++ zs) := by
  obtain ⟨oc, od, dV, kV, doc, pm, an, cdv, ct, osl, rfl, lk, hcd, hD, hK⟩ := F.ex
  rcases hD with ⟨_, rfl⟩ | ⟨e, _⟩
  · exact ⟨fun s us ws _ l1 l2 => .of_eq (h kV doc pm an cdv ct us ws l1 l2), fun r1 r2 => r1.append r2⟩
  · exact absurd rfl e
end
section
variable {δ : Sg} {μ : Mu} {Q : QE}
theorem x_callSD {sp : Sp2} {dds : List D} {ex : Sg → Ex2} {t : TA2} (h : t δ μ fun ds μ1 => sp (ds ++ dds) μ1 (Upd Q) (ex δ)) : jCallSD sp dds ex t δ μ Q := h
theorem x_callSK {n m : Nat} {sp : Sp2} {ex : Sg → Ex2} {t tk : TA2} (h : t δ μ fun ds μ1 => tk δ μ1 fun zs μ2 => ds.length = n ∧ zs.length = m ∧ sp (ds ++ zs) μ2 (Upd Q) (ex δ)) : jCallSK n m sp ex t tk δ μ Q := h
theorem x_inO {C : Str} {sp : Sp2} {neg : Bool} {x y : D} (hi : ∃ fs, IsIns y C fs μ) (h : sp [y, x] μ (Upd fun d μ' => ∃ b, d = .bl b ∧ Q (.bl (neg ^^ b)) μ') noEx) : inO neg C sp x y μ Q := ⟨hi, h⟩
end
end J

/-! J29: a call with keyword-only arguments of a def that does not raise here. -/
namespace J
open PySem PySem.Spec PyProof.Rows L2
def jCallK (n m : Nat) (sp : Sp2) (t tk : TA2) : TE2 := fun δ μ Q => t δ μ fun ds μ1 => tk δ μ1 fun zs μ2 => ds.length = n ∧ zs.length = m ∧ sp (ds ++ zs) μ2 (Upd Q) noEx
section
variable {X : Cx} {Z : Zw} {k n : Nat} {f : Addr} {fd : FuncData} {ps ks : List Str} {sp : Sp2} {x : Str} {q pos kpos : Pos} {e : Expr} {es : List Expr} {kws : List Keyword} {t tk2 : TA2}
theorem pass_noneAt {P : Program} {w : World} {X : Cx} (σ : Sv) : PassesAt (L2N.CX P w) X σ (fun _ _ _ => False) := fun _ _ _ _ _ _ ⟨_, _, _, _, _, _, _, _, _, _, _, _, h⟩ => h.elim
theorem jcallK (F : FnOk X.prog X.w X.K X.mg X.base (L2N.CX X.prog X.w) k f fd ps (lowSp X.K sp)) (hr : Room k X.A) (hg : Gl X x) (hm : X.mg x = some (.ref f)) (hk : PySem.W.keepIn X.K (.ref f) = true) (hb : KBn X.K fd ps n ks (fun us ws => us ++ ws) (fun vs zs => vs ++ zs))
    (ha : A2 X Z (e :: es) t) (hkw : PK X kws (lowA X.K Z tk2)) (hall : (backToKw pos (keywordEach kws X.env)).all (·.1.isSome) = true := by rfl) (hks : (backToKw pos (keywordEach kws X.env)).filterMap (·.1) = ks := by rfl)
    (hdb : (x == ("__debug__" : Str)) = false := by decide) (he : starEach (e :: es) X.env = (false, eval e X.env) :: starEach es X.env := by rfl)
    (hpl : ((backTo pos (starEach (e :: es) X.env)).any (·.1) || (backToKw pos (keywordEach kws X.env)).any (·.1.isNone)) = false := by rfl) :
    E2 X Z (.Call (.Name x q) (e :: es) kws pos) (jCallK n ks.length sp t tk2) := by
  refine pe_imp (pe_callSN (E := fun _ _ _ _ => False) F hr hg hm hk hb pass_noneAt ha hkw hall hks hdb he hpl) fun σ H Q h => ?_
  obtain ⟨F, δ, μ, Q0, m, h, k⟩ := h
  refine ⟨F, δ, μ, _, m, h, ?_⟩
  intro as μ1 F1 H1 vs q1 g1 w1 r1
  refine ⟨F1, δ, μ1, _, m.step g1 w1, q1, ?_⟩
  rintro bs μ2 F2 H2 zs ⟨l1, l2, q2⟩ g2 w2 r2
  refine ⟨by rw [r1.length]; exact l1, by rw [r2.length]; exact l2, F2, μ2, as ++ bs, _, noEx, w2, (r1.mono g2.ff).append r2, q2, ?_, ZE.none⟩
  intro d μ3 F3 H3 v q3 g3 w3 r3
  obtain ⟨F4, d4, μ4, g4, w4, r4, q4⟩ := q3 X.K F3 H3 v w3 r3
  exact k d4 μ4 F4 H3 v q4 (((g1.trans g2).trans g3).trans g4) w4 r4
end
section
variable {δ : Sg} {μ : Mu} {Q : QE}
theorem x_callK {n m : Nat} {sp : Sp2} {t tk : TA2} (h : t δ μ fun ds μ1 => tk δ μ1 fun zs μ2 => ds.length = n ∧ zs.length = m ∧ sp (ds ++ zs) μ2 (Upd Q) noEx) : jCallK n m sp t tk δ μ Q := h
end
end J

/-! J30: loops over reversed(list or tuple), enumerate(list). -/
namespace J
open PySem PySem.Spec PyProof.Rows L2
section
variable {X : Cx} {Z : Zw} {tg : Expr}
def revSeq (x : D) (μ : Mu) (R : List D → (Mu → Prop) → Mu → Prop) : Prop :=
  match x with
  | .lst xs => R xs.reverse (fun _ => True) μ
  | .rol xs => R xs.reverse (fun _ => True) μ
  | .tup xs => R xs.reverse (fun _ => True) μ
  | .ref a => ∃ xs, μ a = some (.lst xs) ∧ R xs.reverse (fun μ' => μ' a = some (.lst xs)) μ
  | _ => False
def iRev2 (t : TE2) : TI2 := fun δ μ R => t δ μ fun x μ1 => revSeq x μ1 R
theorem rev_at {α : Type} {xs : List α} {i : Nat} {d : α} (h : xs.reverse[i]? = some d) : i < xs.length ∧ xs[xs.length - 1 - i]? = some d := by
  have hl : i < xs.reverse.length := by
    rcases Nat.lt_or_ge i xs.reverse.length with h1 | h1
    · exact h1
    · rw [List.getElem?_eq_none h1] at h; cases h
  rw [List.length_reverse] at hl
  rw [List.getElem?_reverse hl] at h
  exact ⟨hl, h⟩
theorem itOk_rev {K : PySem.W.Frag} {F : Hp} {a : Addr} {n : Nat} {xs : List D} {G : Mu → Prop} (hn : n = xs.length) (h : ∀ F' H' μ', Same F F' → Wd K F' H' μ' → G μ' → ∃ ws, SqL K H' a ws ∧ Reps K F' ws xs) : ItOk K (Itv K a n) F xs.reverse G := by
  subst hn
  intro F' H' μ' ff w g
  obtain ⟨ws, hs, rs'⟩ := h F' H' μ' ff w g
  refine ⟨fun i d hd => ?_, fun i hi => by show xs.length ≤ i; simpa using hi⟩
  obtain ⟨hi, hd⟩ := rev_at hd
  obtain ⟨v, hv, rv⟩ := rs'.get hd
  refine ⟨⟨hi, ws, v, hs, hv⟩, ?_⟩
  rintro x H2 ⟨rfl, hy⟩
  have e := hy ws hs
  rw [hv] at e
  cases e
  exact ⟨F', .refl, w, rv⟩
theorem itOk_revT {K : PySem.W.Frag} {F : Hp} {a : Addr} {n : Nat} {xs : List D} {G : Mu → Prop} (hn : n = xs.length) (h : ∀ F' H' μ', Same F F' → Wd K F' H' μ' → G μ' → ∃ ws, SqT K H' a ws ∧ Reps K F' ws xs) : ItOk K (RT.ItvT K a n) F xs.reverse G := by
  subst hn
  intro F' H' μ' ff w g
  obtain ⟨ws, hs, rs'⟩ := h F' H' μ' ff w g
  refine ⟨fun i d hd => ?_, fun i hi => by show xs.length ≤ i; simpa using hi⟩
  obtain ⟨hi, hd⟩ := rev_at hd
  obtain ⟨v, hv, rv⟩ := rs'.get hd
  refine ⟨⟨hi, ws, v, hs, hv⟩, ?_⟩
  rintro x H2 ⟨rfl, hy⟩
  have e := hy ws hs
  rw [hv] at e
  cases e
  exact ⟨F', .refl, w, rv⟩
theorem ji_rev {e : Expr} {t : TE2} {p pos : Pos} (hg : Gl X "reversed") (hm : X.mg "reversed" = none) (he : E2 X Z e t) (hs : starEach [e] X.env = (false, eval e X.env) :: starEach [] X.env := by rfl) : I2 X Z tg (.Call (.Name "reversed" p) [e] [] pos) (iRev2 t) := by
  refine pi_imp (RT.pi_revA hg hm he hs) ?_
  rintro σ H R ⟨F, δ, μ, Q0, m, q, k⟩
  refine ⟨F, δ, μ, _, m, q, ?_⟩
  rintro x μ1 F1 H1 v q1 g1 w1 r1
  unfold revSeq at q1
  split at q1 <;> first | exact False.elim q1 | skip
  · rename_i xs
    obtain ⟨a, vs, rfl, ha, rs⟩ := seq_at w1 r1 SeqAt.f
    refine ⟨a, vs, rfl, .inl ⟨ha, k _ _ _ _ _ _ q1 g1 w1 (itOk_rev rs.length fun F' H' μ' ff w' _ => ?_)⟩⟩
    cases r1 with
    | lst hq rq => exact ⟨_, SqL.of (w'.sub _ _ (ff _ _ hq)), rq.mono ff⟩
  · rename_i xs
    obtain ⟨a, vs, rfl, ha, rs⟩ := seq_at w1 r1 SeqAt.r
    refine ⟨a, vs, rfl, .inl ⟨ha, k _ _ _ _ _ _ q1 g1 w1 (itOk_rev rs.length fun F' H' μ' ff w' _ => ?_)⟩⟩
    cases r1 with
    | rol hq rq => exact ⟨_, w'.sub.seq (ff.seq hq), rq.mono ff⟩
  · rename_i xs
    cases r1 with
    | tup hq rs =>
      refine ⟨_, _, rfl, .inr ⟨sqt_mono w1.sub hq, k _ _ _ _ _ _ q1 g1 w1 (itOk_revT rs.length fun F' H' μ' ff w' _ => ?_)⟩⟩
      exact ⟨_, sqt_mono w'.sub (sqt_mono ff hq), rs.mono ff⟩
  · obtain ⟨xs, h, q1⟩ := q1
    cases r1
    obtain ⟨vs, h1, rs⟩ := mlst_at w1 h
    refine ⟨_, _, rfl, .inl ⟨SqL.of h1, k _ _ _ _ _ _ q1 g1 w1 (itOk_rev rs.length fun F' H' μ' ff w' g => ?_)⟩⟩
    obtain ⟨ws, h2, rs2⟩ := mlst_at w' g
    exact ⟨ws, SqL.of h2, rs2⟩
/-! ### enumerate -/
def enumD : Nat → List D → List D
  | _, [] => []
  | k, x :: r => .tup [.int (k : Nat), x] :: enumD (k + 1) r
theorem enumD_get : ∀ {xs : List D} {k i : Nat} {d : D}, (enumD k xs)[i]? = some d → ∃ x, xs[i]? = some x ∧ d = .tup [.int ((k + i : Nat) : Int), x]
  | [], _, _, _, h => by simp [enumD] at h
  | x :: r, k, 0, d, h => by
    simp [enumD] at h
    exact ⟨x, rfl, h.symm⟩
  | x :: r, k, i + 1, d, h => by
    simp only [enumD, List.getElem?_cons_succ] at h
    obtain ⟨y, h1, h2⟩ := enumD_get h
    exact ⟨y, by simpa using h1, by rw [h2, show k + 1 + i = k + (i + 1) by omega]⟩
theorem enumD_len : ∀ (k : Nat) (xs : List D), (enumD k xs).length = xs.length
  | _, [] => rfl
  | k, _ :: r => congrArg (· + 1) (enumD_len (k + 1) r)
def iEnum2 (t : TA2) : TI2 := fun δ μ R => t δ μ fun ds μ1 => ∃ x, ds = [x] ∧ iSeq' x μ1 fun xs G μ => R (enumD 0 xs) G μ
theorem itOk_enum {K : PySem.W.Frag} {F : Hp} {a : Addr} {xs : List D} {G : Mu → Prop} (h : ∀ F' H' μ', Same F F' → Wd K F' H' μ' → G μ' → ∃ ws, SqL K H' a ws ∧ Reps K F' ws xs) : ItOk K (Ite K a) F (enumD 0 xs) G := by
  intro F' H' μ' ff w g
  obtain ⟨ws, hs, rs'⟩ := h F' H' μ' ff w g
  refine ⟨fun i d hd => ?_, fun i hi => ⟨ws, hs, by rw [rs'.length]; rw [enumD_len] at hi; exact hi⟩⟩
  obtain ⟨y, hy, rfl⟩ := enumD_get hd
  obtain ⟨v, hv, rv⟩ := rs'.get hy
  refine ⟨⟨ws, v, hs, hv⟩, ?_⟩
  rintro x H2 ⟨T, x', rfl, hT, rfl, hx⟩
  have e := hx ws hs
  rw [hv] at e
  cases e
  rw [Nat.zero_add]
  exact newT_ok (Q := fun v H2 => ∃ F2, Gr F' H' μ' F2 H2 μ' ∧ Wd K F2 H2 μ' ∧ Rep K F2 v (.tup [.int (i : Nat), y])) (Q0 := fun d μ2 => d = .tup [.int (i : Nat), y] ∧ μ2 = μ') w hT (.cons .int (.cons rv .nil)) ⟨rfl, rfl⟩ fun d μ2 F2 H2 v q g w r => by
    obtain ⟨e1, e2⟩ := q
    rw [e2] at g w
    rw [e1] at r
    exact ⟨F2, g, w, r⟩
theorem ji_enum {elts : List Expr} {kk : Nat} {tpos : Pos} {e : Expr} {t : TA2} {p pos : Pos} (hg : Gl X "enumerate") (hm : X.mg "enumerate" = none) (ha : A2 X Z [e] t) (hs : starEach [e] X.env = [(false, eval e X.env)] := by rfl) : I2 X Z (.Tuple elts kk tpos) (.Call (.Name "enumerate" p) [e] [] pos) (iEnum2 t) := by
  refine pi_imp (pi_enum hg hm ha hs) ?_
  rintro σ H R ⟨F, δ, μ, Q0, m, q, k⟩
  refine ⟨F, δ, μ, _, m, q, ?_⟩
  rintro ds μ1 F1 H1 vs ⟨x, rfl, q1⟩ g1 w1 r1
  obtain ⟨v, rfl, rv⟩ := r1.one
  clear r1
  have r1 := rv
  clear rv
  unfold iSeq' at q1
  split at q1 <;> first | exact False.elim q1 | skip
  · rename_i xs
    obtain ⟨a, vs, rfl, ha, rs⟩ := seq_at w1 r1 SeqAt.f
    refine ⟨a, vs, rfl, ha, k _ _ _ _ _ _ q1 g1 w1 (itOk_enum fun F' H' μ' ff w' _ => ?_)⟩
    cases r1 with
    | lst hq rq => exact ⟨_, SqL.of (w'.sub _ _ (ff _ _ hq)), rq.mono ff⟩
  · rename_i xs
    obtain ⟨a, vs, rfl, ha, rs⟩ := seq_at w1 r1 SeqAt.r
    refine ⟨a, vs, rfl, ha, k _ _ _ _ _ _ q1 g1 w1 (itOk_enum fun F' H' μ' ff w' _ => ?_)⟩
    cases r1 with
    | rol hq rq => exact ⟨_, w'.sub.seq (ff.seq hq), rq.mono ff⟩
  · obtain ⟨xs, h, q1⟩ := q1
    cases r1
    obtain ⟨vs, h1, rs⟩ := mlst_at w1 h
    refine ⟨_, _, rfl, SqL.of h1, k _ _ _ _ _ _ q1 g1 w1 (itOk_enum fun F' H' μ' ff w' g => ?_)⟩
    obtain ⟨ws, h2, rs2⟩ := mlst_at w' g
    exact ⟨ws, SqL.of h2, rs2⟩
end
section
variable {Q : QE} {μ : Mu} {δ : Sg}
theorem x_iRev {t : TE2} {R : List D → (Mu → Prop) → Mu → Prop} (h : t δ μ fun x μ1 => revSeq x μ1 R) : iRev2 t δ μ R := h
theorem x_revL {xs : List D} {R : List D → (Mu → Prop) → Mu → Prop} (h : R xs.reverse (fun _ => True) μ) : revSeq (.lst xs) μ R := h
theorem x_revT {xs : List D} {R : List D → (Mu → Prop) → Mu → Prop} (h : R xs.reverse (fun _ => True) μ) : revSeq (.tup xs) μ R := h
theorem x_revM {a : Addr} {xs : List D} {R : List D → (Mu → Prop) → Mu → Prop} (ha : μ a = some (.lst xs)) (h : R xs.reverse (fun μ' => μ' a = some (.lst xs)) μ) : revSeq (.ref a) μ R := ⟨xs, ha, h⟩
theorem x_iEnum {t : TA2} {R : List D → (Mu → Prop) → Mu → Prop} (h : t δ μ fun ds μ1 => ∃ x, ds = [x] ∧ iSeq' x μ1 fun xs G μ => R (enumD 0 xs) G μ) : iEnum2 t δ μ R := h
end
/-! ### a list settled within another one -/
inductive Sub1 (a : Addr) (d0 : D) : List D → List D → Prop
  | nil : Sub1 a d0 [] []
  | keep {y : D} {ys zs : List D} : Sub1 a d0 ys zs → Sub1 a d0 (y :: ys) (y :: zs)
  | put {ys zs : List D} : Sub1 a d0 ys zs → Sub1 a d0 (.ref a :: ys) (d0 :: zs)
theorem Sub1.refl {a : Addr} {d0 : D} : ∀ {ys : List D}, Sub1 a d0 ys ys
  | [] => .nil
  | _ :: _ => .keep Sub1.refl
theorem Sub1.app {a : Addr} {d0 : D} {xs xs' : List D} (h : Sub1 a d0 xs xs') {ys ys' : List D} (k : Sub1 a d0 ys ys') : Sub1 a d0 (xs ++ ys) (xs' ++ ys') := by
  induction h with
  | nil => exact k
  | keep _ ih => exact .keep ih
  | put _ ih => exact .put ih
theorem Sub1.reps {K : PySem.W.Frag} {F : Hp} {a : Addr} {d0 : D} (h0 : Rep K F (.ref a) d0) : ∀ {vs : List V} {ys zs : List D}, Sub1 a d0 ys zs → Reps K F vs ys → Reps K F vs zs
  | _, _, _, .nil, r => r
  | _, _, _, .keep h, .cons r t => .cons r (h.reps h0 t)
  | _, _, _, .put h, .cons r t => by
    cases r
    exact .cons h0 (h.reps h0 t)
theorem wd_inn {K : PySem.W.Frag} {F H : Hp} {μ : Mu} {a p : Addr} {xs ys zs : List D} (w : Wd K F H μ) (ha : μ a = some (.lst xs)) (hp : μ p = some (.lst ys)) (hne : a ≠ p) (hs : Sub1 a (.lst xs) ys zs) :
    ∃ F', Gr F H μ F' H (mup (mdel μ a) p (.lst zs)) ∧ Wd K F' H (mup (mdel μ a) p (.lst zs)) := by
  obtain ⟨fa, ho, h1, h2⟩ := w.mts a _ ha
  cases h2 with
  | lst rs =>
    obtain ⟨w1, g1⟩ := w.freeze ha h1
    have hpd : mdel μ a p = some (.lst ys) := by unfold mdel; rw [if_neg (Ne.symm hne)]; exact hp
    obtain ⟨fp, ho2, h3, h4⟩ := w1.mts p _ hpd
    cases h4 with
    | lst rp =>
      have e0 : Rep K (upd F a (.lst _)) (.ref a) (.lst xs) := Rep.lst upd_same (rs.mono g1.ff)
      refine ⟨_, ⟨g1.ff, fun b u k1 k2 k3 => ?_⟩, ⟨w1.sub, fun b u e => ?_⟩⟩
      · obtain ⟨q1, q2, q3⟩ := g1.fr b u k1 k2 k3
        have hb : b ≠ p := fun z => by rw [z, hp] at k3; cases k3
        exact ⟨q1, q2, by rw [mup_ne hb]; exact q3⟩
      · by_cases hb : b = p
        · subst hb
          rw [mup_same] at e
          cases e
          exact ⟨fp, _, h3, .lst (hs.reps e0 rp)⟩
        · rw [mup_ne hb] at e
          exact w1.mts b u e
theorem Upd.inn {Q : QE} {d : D} {μ : Mu} {a p : Addr} {xs ys zs : List D} (ha : μ a = some (.lst xs)) (hp : μ p = some (.lst ys)) (hne : a ≠ p) (hs : Sub1 a (.lst xs) ys zs) (q : Upd Q d (mup (mdel μ a) p (.lst zs))) : Upd Q d μ := fun K F H v w r => by
  obtain ⟨F1, g1, w1⟩ := wd_inn w ha hp hne hs
  obtain ⟨F2, d2, μ2, g2, w2, r2, q2⟩ := q K F1 H v w1 (r.mono g1.ff)
  exact ⟨F2, d2, μ2, g1.trans g2, w2, r2, q2⟩
/-- a list settled within a tuple -/
theorem Upd.tup {Q : QE} {μ : Mu} {a : Addr} {xs ys zs : List D} (ha : μ a = some (.lst xs)) (hs : Sub1 a (.lst xs) ys zs) (q : Q (.tup zs) (mdel μ a)) : Upd Q (.tup ys) μ := fun K F H v w r => by
  obtain ⟨fa, ho, h1, h2⟩ := w.mts a _ ha
  cases h2 with
  | lst rs =>
    obtain ⟨w1, g1⟩ := w.freeze ha h1
    have e0 : Rep K (upd F a (.lst _)) (.ref a) (.lst xs) := Rep.lst upd_same (rs.mono g1.ff)
    cases r with
    | tup hq rt => exact ⟨_, _, _, g1, w1, .tup (sqt_mono g1.ff hq) (hs.reps e0 (rt.mono g1.ff)), q⟩
theorem Gst.inn {P : Sg → Mu → Prop} {δ : Sg} {μ : Mu} {a p : Addr} {xs ys zs : List D} (ha : μ a = some (.lst xs)) (hp : μ p = some (.lst ys)) (hne : a ≠ p) (hs : Sub1 a (.lst xs) ys zs) (q : Gst P δ (mup (mdel μ a) p (.lst zs))) : Gst P δ μ := fun K Z F σ H m => by
  obtain ⟨F1, g1, w1⟩ := wd_inn m.wd ha hp hne hs
  obtain ⟨F2, δ2, μ2, g2, m2, q2⟩ := q K Z F1 σ H (m.step g1 w1)
  exact ⟨F2, δ2, μ2, g1.trans g2, m2, q2⟩
theorem Upd.forget {Q : QE} {d : D} {μ μ' : Mu} (l : Le μ' μ) (q : Upd Q d μ') : Upd Q d μ := .join (.drop l q)
theorem mdel_ne {μ : Mu} {a b : Addr} (h : b ≠ a) : mdel μ a b = μ b := if_neg h
theorem mdel_mup_ne {μ : Mu} {a b : Addr} {o : MO} (h : a ≠ b) : mdel (mup μ a o) b = mup (mdel μ b) a o := by
  funext c
  unfold mdel mup
  by_cases h1 : c = a
  · subst h1
    rw [if_neg h, if_pos rfl, if_pos rfl]
  · rw [if_neg h1, if_neg h1]
theorem mdel_none {μ : Mu} {a : Addr} (h : μ a = none) : mdel μ a = μ := by
  funext c
  unfold mdel
  split
  · next e => rw [e, h]
  · rfl
end J

/-! J31: del d[k], [*xs, ..]. -/
namespace J
open PySem PySem.Spec PyProof.Rows L2
section
variable {X : Cx} {Z : Zw}
def jDel (to ti : TE2) : TS2 := fun D δ μ => to δ μ fun o μ1 => ti δ μ1 fun i μ2 => ∃ p kvs k, o = .ref p ∧ keyD i = some k ∧ μ2 p = some (.dct kvs) ∧ (valD kvs k).isSome = true ∧ D.nx δ (mup μ2 p (.dct (dropKD kvs k)))
theorem js_del {o i : Expr} {to ti : TE2} {tpos pos : Pos} (ho : E2 X Z o to) (hi : E2 X Z i ti) : S2 X Z (.Delete [.Subscript o i tpos] pos) (jDel to ti) := by
  refine ps_imp (ps_ddel ho hi) ?_
  rintro D σ H ⟨F, δ, μ, D2, m, q, e⟩
  refine ⟨F, δ, μ, _, m, q, ?_⟩
  rintro x μ1 F1 H1 xv q1 g1 w1 r1
  have m1 := m.step g1 w1
  refine ⟨F1, δ, μ1, _, m1, q1, ?_⟩
  rintro y μ2 F2 H2 yv ⟨p, kvs, k, rfl, hk, h, hs, q2⟩ g2 w2 r2
  have m2 := m1.step g2 w2
  cases (r1.mono g2.ff)
  have e1 := keyD_rep r2 hk
  obtain ⟨vs, h1, rs⟩ := mdct_at w2 h
  obtain ⟨w3, g3⟩ := w2.write h (RepM.dct (rs.dropK (k := k)))
  exact ⟨p, vs, k, rfl, h1, e1, by rw [rs.isSome]; exact hs, e.nx _ _ _ _ _ q2 ((g1.trans g2).trans g3) (m2.step g3 w3)⟩
def jStar (te : TE2) (t : TA2) : TA2 := fun δ μ Q => te δ μ fun x μ1 => ∃ xs, (x = .tup xs ∨ SeqAt μ1 x xs) ∧ t δ μ1 fun ys μ2 => Q (xs ++ ys) μ2
theorem ja_star {e : Expr} {p : Pos} {es : List Expr} {te : TE2} {t : TA2} (he : E2 X Z e te) (hr : A2 X Z es t) (hs : starEach (.Starred e p :: es) X.env = (true, eval e X.env) :: starEach es X.env := by rfl) : A2 X Z (.Starred e p :: es) (jStar te t) := by
  refine pa_imp (StX.pa_star he hr hs) ?_
  rintro σ H Q ⟨F, δ, μ, Q0, m, q, k⟩
  refine ⟨F, δ, μ, _, m, q, ?_⟩
  rintro x μ1 F1 H1 v ⟨xs, hx, q1⟩ g1 w1 r1
  have fin : ∀ {vs : List V}, Reps X.K F1 vs xs → lowA X.K Z t σ H1 fun ys H2 => Q (vs ++ ys) H2 := fun {vs} rs => by
    refine ⟨F1, δ, μ1, _, m.step g1 w1, q1, ?_⟩
    rintro ys μ2 F2 H2 us q2 g2 w2 r2
    exact k _ μ2 F2 H2 _ q2 (g1.trans g2) w2 ((rs.mono g2.ff).append r2)
  rcases hx with rfl | hx
  · cases r1 with
    | tup hq rs => exact ⟨_, _, rfl, .inl (sqt_mono w1.sub hq), fin rs⟩
  · obtain ⟨a, vs, rfl, ha, rs⟩ := seq_at w1 r1 hx
    exact ⟨a, vs, rfl, .inr ha, fin rs⟩
end
section
variable {μ : Mu} {δ : Sg}
theorem x_delS {D : Ends2} {to ti : TE2} (h : to δ μ fun o μ1 => ti δ μ1 fun i μ2 => ∃ p kvs k, o = .ref p ∧ keyD i = some k ∧ μ2 p = some (.dct kvs) ∧ (valD kvs k).isSome = true ∧ D.nx δ (mup μ2 p (.dct (dropKD kvs k)))) : jDel to ti D δ μ := h
theorem x_star {te : TE2} {t : TA2} {Q : List D → Mu → Prop} (h : te δ μ fun x μ1 => ∃ xs, (x = .tup xs ∨ SeqAt μ1 x xs) ∧ t δ μ1 fun ys μ2 => Q (xs ++ ys) μ2) : jStar te t δ μ Q := h
theorem dropKD_map {α : Type} {f : α → Key × D} (k : Key) : ∀ l : List α, dropKD (l.map f) k = (l.filter fun x => decide ((f x).1 ≠ k)).map f
  | [] => rfl
  | x :: r => by
    have ih := dropKD_map (f := f) k r
    unfold dropKD at ih ⊢
    rw [List.map_cons, List.filter_cons, List.filter_cons]
    by_cases h : (f x).1 = k
    · rw [if_neg (by simp [h]), if_neg (by simp [h])]
      exact ih
    · rw [if_pos (by simp [h]), if_pos (by simp [h]), List.map_cons, ih]
end
end J

open PySem PySem.Spec PyProof.Rows L2 J
local macro_rules | `(tactic| walk_at "mu") => `(tactic| first
  | assumption
  | exact mup_same
  | (refine Eq.trans (mup_ne ?_) ?_ <;> first | assumption | (apply Ne.symm; assumption) | exact mup_same | (refine Eq.trans (mup_ne ?_) ?_ <;> first | assumption | (apply Ne.symm; assumption) | exact mup_same | (refine Eq.trans (mup_ne ?_) ?_ <;> first | assumption | (apply Ne.symm; assumption) | exact mup_same))))
local macro_rules | `(tactic| walk_at "sz") => `(tactic| first
  | exact Nat.le_of_ble_eq_true (by with_unfolding_all rfl)
  | assumption
  | (simp only [List.length_append, List.length_cons, List.length_nil, List.length_map, List.length_set, List.length_reverse] at *; have hszl := sizeLine_eq; omega))
local macro_rules | `(tactic| walk_at "j") => `(tactic| with_reducible first
  | refine x_seqo fun _ _ => ?_ | refine x_asg ?_ | refine x_ret ?_ | refine x_retN ?_ | refine x_ifs ?_ | refine x_next ?_ | refine x_brk ?_ | refine x_cont ?_ | refine x_drop ?_
  | (refine g_name ?_; refine x_name (by dsimp only [List.set]) ?_)
  | (refine g_var ?_; refine x_var (by with_unfolding_all rfl) ?_) | refine x_c ?_ | refine x_op ?_ | refine x_un ?_ | refine x_test ?_ | refine x_blk ?_ | refine x_chain ?_
  | refine x_and ?_ | refine x_or ?_ | refine x_not ?_ | refine x_andV ?_ | refine x_orV ?_ | refine x_notV ?_ | refine x_if ?_
  | refine x_nil ?_ | refine x_cons ?_ | refine x_tup ?_ | refine x_lst ?_ | refine x_cb ?_ | refine x_call ?_ | refine x_bm0 ?_ | refine x_bm ?_
  | refine x_sl ?_ | refine x_nopart ?_ | refine x_part ?_ | refine x_parti ?_ | refine x_sub ?_ | refine x_for ?_ | refine x_lc ?_ | refine x_yes ?_
  | (refine g_ktup ?_; refine x_ktup (by with_unfolding_all rfl) ?_) | refine x_kcons ?_ | refine x_knil ?_
  | refine x_delS ?_ | refine x_star ?_ | refine x_disp ?_ | refine x_pairs0 ?_ | refine x_pairs ?_ | refine x_dnew ?_
  | (refine g_mul ?_; refine x_mulR (by decide) ?_) | (refine g_mul ?_; refine x_mulL (by decide) ?_) | (refine g_mod ?_; refine x_mod (by first | decide | omega) ?_) | (refine g_fdiv ?_; refine x_fdiv (by decide) (by decide) ?_) | (refine g_shr ?_; refine x_shr (by first | decide | omega) ?_) | (refine g_pow ?_; refine x_pow (by decide) ?_)
  | refine x_par ?_ | (refine g_aug ?_; refine x_aug (by with_unfolding_all rfl) ?_) | refine x_augI ?_
  | refine x_add ?_ | refine x_subI ?_ | refine x_neg ?_ | refine x_cmp ?_ | refine x_cmpS ?_ | refine x_eqI ?_ | refine x_eqS ?_ | refine x_eqB ?_ | refine x_neI ?_ | refine x_neS ?_ | refine x_neB ?_ | refine x_isB ?_ | refine x_isnB ?_
  | (refine g_ixL ?_; refine x_ixL (by with_unfolding_all rfl) ?_) | (refine g_ixT ?_; refine x_ixT (by with_unfolding_all rfl) ?_) | (refine g_ixM ?_; refine x_ixM (by walk_at "mu") (by with_unfolding_all rfl) ?_)
  | (refine g_setL ?_; refine x_setL (by walk_at "mu") (by with_unfolding_all rfl) ?_)
  | refine x_lenL ?_ | refine x_lenR ?_ | refine x_lenT ?_ | refine x_lenD ?_ | (refine g_lenM ?_; refine x_lenM (by walk_at "mu") ?_)
  | refine x_int ?_ | refine x_intB ?_ | refine x_listL ?_ | refine x_listR ?_ | refine x_listT ?_ | refine x_listD ?_ | (refine g_listM ?_; refine x_listM (by walk_at "mu") ?_) | (refine g_listM ?_; refine x_listDM (by walk_at "mu") ?_)
  | refine x_tupleL ?_ | refine x_tupleT ?_ | (refine g_tupleM ?_; refine x_tupleM (by walk_at "mu") ?_) | refine x_abs ?_ | refine x_max ?_ | refine x_min ?_
  | (refine g_isi ?_; refine x_isi (by with_unfolding_all rfl) (by with_unfolding_all rfl) ?_)
  | (refine g_tyM ?_; refine x_tyM (by walk_at "mu") ?_) | (refine g_tyMD ?_; refine x_tyMD (by walk_at "mu") ?_)
  | refine x_iRev ?_ | refine x_revL ?_ | refine x_revT ?_ | refine x_iEnum ?_ | refine x_iL ?_ | refine x_iLf ?_ | refine x_iLr ?_ | refine x_iT ?_ | refine x_iTf ?_ | refine x_iR1 ?_ | refine x_iR2 ?_
  | (refine g_le ?_; refine And.intro (Nat.le_of_ble_eq_true (by with_unfolding_all rfl)) ?_)
  | refine x_setF ?_ | (refine g_fld ?_; refine x_fldV (by with_unfolding_all rfl) (by with_unfolding_all rfl) ?_) | (refine g_fld ?_; refine x_fldM (by with_unfolding_all rfl) (by walk_at "mu") (by with_unfolding_all rfl) ?_) | refine x_prop ?_ | refine x_meth ?_ | refine x_methS ?_ | refine x_make ?_ | refine x_makeS ?_ | refine x_dc ?_ | refine x_callSD ?_ | refine x_callSK ?_ | refine x_callK ?_ | refine x_seqGo fun _ _ => ?_
  | refine x_isE ?_ | refine x_xf ?_ | refine x_iS ?_ | refine x_iSf ?_ | refine x_callX ?_ | refine x_callS ?_ | refine x_raise ?_
  | refine x_nx (by assumption) ?_)
local macro_rules | `(tactic| walk_at "js") => `(tactic| repeat (walk_at "j"))

namespace L
open PySem PySem.Spec PyProof.Rows L2 J
abbrev c_LONGEST_NAME : D := .int 12
abbrev c_MOST_HOUSES : D := .int 32
abbrev c_MOST_LINES : D := .int 96
def xtab : XTab := [((("BadName" : Str), ("BadName" : Str)), true), ((("BadName" : Str), ("NoHouse" : Str)), false), ((("BadName" : Str), ("NoLine" : Str)), false), ((("BadName" : Str), ("SelfLine" : Str)), false), ((("BadName" : Str), ("Taken" : Str)), false), ((("BadName" : Str), ("TooMany" : Str)), false), ((("NoHouse" : Str), ("BadName" : Str)), false), ((("NoHouse" : Str), ("NoHouse" : Str)), true), ((("NoHouse" : Str), ("NoLine" : Str)), false), ((("NoHouse" : Str), ("SelfLine" : Str)), false), ((("NoHouse" : Str), ("Taken" : Str)), false), ((("NoHouse" : Str), ("TooMany" : Str)), false), ((("NoLine" : Str), ("BadName" : Str)), false), ((("NoLine" : Str), ("NoHouse" : Str)), false), ((("NoLine" : Str), ("NoLine" : Str)), true), ((("NoLine" : Str), ("SelfLine" : Str)), false), ((("NoLine" : Str), ("Taken" : Str)), false), ((("NoLine" : Str), ("TooMany" : Str)), false), ((("SelfLine" : Str), ("BadName" : Str)), false), ((("SelfLine" : Str), ("NoHouse" : Str)), false), ((("SelfLine" : Str), ("NoLine" : Str)), false), ((("SelfLine" : Str), ("SelfLine" : Str)), true), ((("SelfLine" : Str), ("Taken" : Str)), false), ((("SelfLine" : Str), ("TooMany" : Str)), false), ((("Taken" : Str), ("BadName" : Str)), false), ((("Taken" : Str), ("NoHouse" : Str)), false), ((("Taken" : Str), ("NoLine" : Str)), false), ((("Taken" : Str), ("SelfLine" : Str)), false), ((("Taken" : Str), ("Taken" : Str)), true), ((("Taken" : Str), ("TooMany" : Str)), false), ((("TooMany" : Str), ("BadName" : Str)), false), ((("TooMany" : Str), ("NoHouse" : Str)), false), ((("TooMany" : Str), ("NoLine" : Str)), false), ((("TooMany" : Str), ("SelfLine" : Str)), false), ((("TooMany" : Str), ("Taken" : Str)), false), ((("TooMany" : Str), ("TooMany" : Str)), true)]
def xcls : List Str := [("BadName" : Str), ("NoHouse" : Str), ("NoLine" : Str), ("SelfLine" : Str), ("Taken" : Str), ("TooMany" : Str)]
def t_is_letter : TS2 :=
    jRet (jChain le2 le2 (jC (.str ("a" : Str))) (jVar 0) (jC (.str ("z" : Str))))
def t_is_digit : TS2 :=
    jRet (jChain le2 le2 (jC (.str ("0" : Str))) (jVar 0) (jC (.str ("9" : Str))))
def t_is_name (sp_is_letter : Sp2) (sp_is_digit : Sp2) : TS2 :=
    jSeq (jIfS (jNot (jTest (jCB (isi .str) (jCons (jVar 0) (jCons (jC (.ty "str")) jNil)))))
    (jRet (jC (.bl false)))
    (jNext))
    (jSeq (jIfS (jNot (jTest (jChain le2 le2 (jC (.int 1)) (jCB len1 (jCons (jVar 0) (jNil))) (jC c_LONGEST_NAME))))
    (jRet (jC (.bl false)))
    (jNext))
    (jSeq (jIfS (jNot (jTest (jCall sp_is_letter [] noEx (jCons (jOp ix2 (jVar 0) (jC (.int 0))) (jNil)))))
    (jRet (jC (.bl false)))
    (jNext))
    (jRet (jCB all1 (jCons (jLc (iStr2 (jVar 0)) (kName 1) (jYes) (jOrV (jCall sp_is_letter [] noEx (jCons (jVar 1) (jNil))) (jCall sp_is_digit [] noEx (jCons (jVar 1) (jNil)))) [1]) (jNil))))))
def t_check_name (sp_is_name : Sp2) (ex : Sg → Ex2) : TS2 :=
    jSeq (jIfS (jNot (jTest (jCall sp_is_name [] noEx (jCons (jVar 0) (jNil)))))
    (jRaise ex ("BadName" : Str) ("BadName" : Str) [("word" : Str)] (jCons (jVar 0) (jNil)))
    (jNext))
    (jRet (jVar 0))
def t_check_houses (sp_check_name : Sp2) (ex : Sg → Ex2) : TS2 :=
    jSeq (jAsg (jDnew) (kName 1))
    (jSeq (jFor (iLT (jVar 0)) (kName 2)
    (jSeq (jDrop (jCallS sp_check_name ex (jCons (jVar 2) (jNil))))
    (jSeq (jIfS (jTest (jOp (in2 false) (jVar 2) (jVar 1)))
    (jRaise ex ("Taken" : Str) ("Taken" : Str) [("word" : Str)] (jCons (jVar 2) (jNil)))
    (jNext))
    (jSeq (jIfS (jTest (jOp ge2 (jCB len1 (jCons (jVar 1) (jNil))) (jC c_MOST_HOUSES)))
    (jRaise ex ("TooMany" : Str) ("TooMany" : Str) [("bound" : Str)] (jCons (jC c_MOST_HOUSES) (jNil)))
    (jNext))
    (jAsg (jC (.bl true)) (kSub (jVar 1) (jVar 2)))))))
    (jRet (jCB sorted1 (jCons (jVar 1) (jNil)))))
def t_ordered : TS2 :=
    jSeq (jIfS (jTest (jOp lt2 (jVar 1) (jVar 0)))
    (jRet (jTup (jCons (jVar 1) (jCons (jVar 0) (jNil)))))
    (jNext))
    (jRet (jTup (jCons (jVar 0) (jCons (jVar 1) (jNil)))))
def t_Web_lines : TS2 :=
    jRet (jCB list1 (jCons (jFld ("Web" : Str) ("own_lines" : Str) (jVar 0)) (jNil)))
def t_Web_houses : TS2 :=
    jRet (jCB list1 (jCons (jFld ("Web" : Str) ("own_houses" : Str) (jVar 0)) (jNil)))
def t_lines_by_house_plain (sp_Web_lines : Sp2) (sp_Web_houses : Sp2) : TS2 :=
    jSeq (jAsg (jDc (iL (jProp ("Web" : Str) sp_Web_houses noEx (jVar 0))) (kName 6) (jYes) (jVar 6) (jLst (jNil)) [6]) (kName 2))
    (jSeq (jFor (iL (jProp ("Web" : Str) sp_Web_lines noEx (jVar 0))) (kTup 3 (kCons (kName 3) (kCons (kName 4) (kCons (kName 5) (kNil)))))
    (jIfS (jTest (jOp ne2 (jVar 3) (jVar 1)))
    (jSeq (jDrop (jBM "list" append1 (jOp ix2 (jVar 2) (jVar 4)) (jCons (jTup (jCons (jVar 3) (jCons (jVar 5) (jNil)))) (jNil))))
    (jDrop (jBM "list" append1 (jOp ix2 (jVar 2) (jVar 5)) (jCons (jTup (jCons (jVar 3) (jCons (jVar 4) (jNil)))) (jNil)))))
    (jNext)))
    (jRet (jVar 2)))
def t_step_counts : TS2 :=
    jSeq (jAsg (jDisp [(jVar 1, jC (.int 0))]) (kName 2))
    (jSeq (jAsg (jLst (jCons (jVar 1) (jNil))) (kName 3))
    (jSeq (jAsg (jC (.int 0)) (kName 4))
    (jSeq (jWhile (jTest (jOp lt2 (jVar 4) (jCB len1 (jCons (jVar 3) (jNil)))))
    (jSeq (jAsg (jOp ix2 (jVar 3) (jVar 4)) (kName 5))
    (jSeq (jFor (iL (jOp ix2 (jVar 0) (jVar 5))) (kTup 2 (kCons (kName 6) (kCons (kName 7) (kNil))))
    (jIfS (jTest (jOp (in2 true) (jVar 7) (jVar 2)))
    (jSeq (jAsg (jOp add2 (jOp ix2 (jVar 2) (jVar 5)) (jC (.int 1))) (kSub (jVar 2) (jVar 7)))
    (jDrop (jBM "list" append1 (jVar 3) (jCons (jVar 7) (jNil)))))
    (jNext)))
    (jAug 4 (jC (.int 1)) (augI (fun i j => i + j))))))
    (jRet (jVar 2)))))
def t_find_parts (sp_lines_by_house_plain : Sp2) (sp_Web_houses : Sp2) (sp_step_counts : Sp2) : TS2 :=
    jSeq (jAsg (jCall sp_lines_by_house_plain [] noEx (jCons (jVar 0) (jCons (jC .non) (jNil)))) (kName 1))
    (jSeq (jAsg (jDnew) (kName 2))
    (jSeq (jAsg (jLst (jNil)) (kName 3))
    (jSeq (jFor (iL (jProp ("Web" : Str) sp_Web_houses noEx (jVar 0))) (kName 4)
    (jIfS (jTest (jOp (in2 true) (jVar 4) (jVar 2)))
    (jSeq (jAsg (jCB sorted1 (jCons (jCall sp_step_counts [] noEx (jCons (jVar 1) (jCons (jVar 4) (jNil)))) (jNil))) (kName 5))
    (jSeq (jFor (iL (jVar 5)) (kName 6)
    (jAsg (jC (.bl true)) (kSub (jVar 2) (jVar 6))))
    (jDrop (jBM "list" append1 (jVar 3) (jCons (jVar 5) (jNil))))))
    (jNext)))
    (jRet (jVar 3)))))
def t_merge_names (sp_ordered : Sp2) : TS2 :=
    jSeq (jAsg (jCall sp_ordered [] noEx (jCons (jOp ix2 (jVar 0) (jVar 1)) (jCons (jOp ix2 (jVar 0) (jVar 2)) (jNil)))) (kTup 2 (kCons (kName 3) (kCons (kName 4) (kNil)))))
    (jSeq (jIfS (jTest (jOp eq2 (jVar 3) (jVar 4)))
    (jRet (jC (.bl false)))
    (jNext))
    (jSeq (jFor (iL (jCB list1 (jCons (jVar 0) (jNil)))) (kName 5)
    (jIfS (jTest (jOp eq2 (jOp ix2 (jVar 0) (jVar 5)) (jVar 4)))
    (jAsg (jVar 3) (kSub (jVar 0) (jVar 5)))
    (jNext)))
    (jRet (jC (.bl true)))))
def t_check_new_line (sp_check_name : Sp2) (ex : Sg → Ex2) : TS2 :=
    jSeq (jDrop (jCallS sp_check_name ex (jCons (jVar 0) (jNil))))
    (jSeq (jDrop (jCallS sp_check_name ex (jCons (jVar 1) (jNil))))
    (jSeq (jDrop (jCallS sp_check_name ex (jCons (jVar 2) (jNil))))
    (jSeq (jIfS (jTest (jOp (in2 true) (jVar 1) (jVar 3)))
    (jRaise ex ("NoHouse" : Str) ("NoHouse" : Str) [("word" : Str)] (jCons (jVar 1) (jNil)))
    (jNext))
    (jSeq (jIfS (jTest (jOp (in2 true) (jVar 2) (jVar 3)))
    (jRaise ex ("NoHouse" : Str) ("NoHouse" : Str) [("word" : Str)] (jCons (jVar 2) (jNil)))
    (jNext))
    (jSeq (jIfS (jTest (jOp eq2 (jVar 1) (jVar 2)))
    (jRaise ex ("SelfLine" : Str) ("SelfLine" : Str) [("word" : Str)] (jCons (jVar 0) (jNil)))
    (jNext))
    (jSeq (jIfS (jTest (jOp (in2 false) (jVar 0) (jVar 4)))
    (jRaise ex ("Taken" : Str) ("Taken" : Str) [("word" : Str)] (jCons (jVar 0) (jNil)))
    (jNext))
    (jIfS (jTest (jOp ge2 (jCB len1 (jCons (jVar 4) (jNil))) (jC c_MOST_LINES)))
    (jRaise ex ("TooMany" : Str) ("TooMany" : Str) [("bound" : Str)] (jCons (jC c_MOST_LINES) (jNil)))
    (jNext))))))))
def t_line_tuples : TS2 :=
    jRet (jCB tuple1 (jCons (jLc (iL (jCB sorted1 (jCons (jVar 0) (jNil)))) (kName 1) (jYes) (jTup (jCons (jVar 1) (jCons (jOp ix2 (jOp ix2 (jVar 0) (jVar 1)) (jC (.int 0))) (jCons (jOp ix2 (jOp ix2 (jVar 0) (jVar 1)) (jC (.int 1))) (jNil))))) [1]) (jNil)))
def t_lines_by_house_webs : TS2 :=
    jSeq (jAsg (jDc (iT (jVar 0)) (kName 6) (jYes) (jVar 6) (jLst (jNil)) [6]) (kName 2))
    (jSeq (jFor (iT (jVar 1)) (kTup 3 (kCons (kName 3) (kCons (kName 4) (kCons (kName 5) (kNil)))))
    (jSeq (jDrop (jBM "list" append1 (jOp ix2 (jVar 2) (jVar 4)) (jCons (jVar 3) (jNil))))
    (jDrop (jBM "list" append1 (jOp ix2 (jVar 2) (jVar 5)) (jCons (jVar 3) (jNil))))))
    (jRet (jVar 2)))
def t_Web_init (sp_check_houses : Sp2) (sp_line_tuples : Sp2) (sp_lines_by_house_webs : Sp2) (sp_check_new_line : Sp2) (sp_ordered : Sp2) (ex : Sg → Ex2) : TS2 :=
    jSeq (jAsg (jCallS sp_check_houses ex (jCons (jVar 1) (jNil))) (kName 3))
    (jSeq (jAsg (jDc (iL (jVar 3)) (kName 9) (jYes) (jVar 9) (jC (.bl true)) [9]) (kName 4))
    (jSeq (jAsg (jDnew) (kName 5))
    (jSeqG (jFor (iLT (jVar 2)) (kTL 3 (kCons (kName 6) (kCons (kName 7) (kCons (kName 8) (kNil)))))
    (jSeq (jDrop (jCallS sp_check_new_line ex (jCons (jVar 6) (jCons (jVar 7) (jCons (jVar 8) (jCons (jVar 4) (jCons (jVar 5) (jNil))))))))
    (jAsg (jCall sp_ordered [] noEx (jCons (jVar 7) (jCons (jVar 8) (jNil)))) (kSub (jVar 5) (jVar 6)))))
    (jSeq (jSetF ("Web" : Str) ("own_houses" : Str) (jVar 0) (jCB tuple1 (jCons (jVar 3) (jNil))))
    (jSeq (jSetF ("Web" : Str) ("own_pairs" : Str) (jVar 0) (jVar 5))
    (jSeq (jSetF ("Web" : Str) ("own_lines" : Str) (jVar 0) (jCall sp_line_tuples [] noEx (jCons (jVar 5) (jNil))))
    (jSetF ("Web" : Str) ("own_near" : Str) (jVar 0) (jCall sp_lines_by_house_webs [] noEx (jCons (jFld ("Web" : Str) ("own_houses" : Str) (jVar 0)) (jCons (jFld ("Web" : Str) ("own_lines" : Str) (jVar 0)) (jNil)))))))))))
def t_checked_web (sp_Web_init : Sp2) (sp_line_tuples : Sp2) (sp_lines_by_house_webs : Sp2) : TS2 :=
    jSeq (jAsg (jMake ("Web" : Str) sp_Web_init [.tup [], .tup []] noEx jNil) (kName 2))
    (jSeq (jSetF ("Web" : Str) ("own_houses" : Str) (jVar 2) (jCB tuple1 (jCons (jVar 0) (jNil))))
    (jSeq (jSetF ("Web" : Str) ("own_pairs" : Str) (jVar 2) (jVar 1))
    (jSeq (jSetF ("Web" : Str) ("own_lines" : Str) (jVar 2) (jCall sp_line_tuples [] noEx (jCons (jVar 1) (jNil))))
    (jSeq (jSetF ("Web" : Str) ("own_near" : Str) (jVar 2) (jCall sp_lines_by_house_webs [] noEx (jCons (jFld ("Web" : Str) ("own_houses" : Str) (jVar 2)) (jCons (jFld ("Web" : Str) ("own_lines" : Str) (jVar 2)) (jNil)))))
    (jRet (jVar 2))))))
def t_Web_with_line (sp_check_new_line : Sp2) (sp_ordered : Sp2) (sp_checked_web : Sp2) (ex : Sg → Ex2) : TS2 :=
    jSeq (jDrop (jCallS sp_check_new_line ex (jCons (jVar 1) (jCons (jVar 2) (jCons (jVar 3) (jCons (jFld ("Web" : Str) ("own_near" : Str) (jVar 0)) (jCons (jFld ("Web" : Str) ("own_pairs" : Str) (jVar 0)) (jNil))))))))
    (jSeq (jAsg (jCB dict1 (jCons (jFld ("Web" : Str) ("own_pairs" : Str) (jVar 0)) (jNil))) (kName 4))
    (jSeqG (jAsg (jCall sp_ordered [] noEx (jCons (jVar 2) (jCons (jVar 3) (jNil)))) (kSub (jVar 4) (jVar 1)))
    (jRet (jCall sp_checked_web [] noEx (jCons (jFld ("Web" : Str) ("own_houses" : Str) (jVar 0)) (jCons (jVar 4) (jNil)))))))
def t_Web_without_line (sp_check_name : Sp2) (sp_checked_web : Sp2) (ex : Sg → Ex2) : TS2 :=
    jSeq (jDrop (jCallS sp_check_name ex (jCons (jVar 1) (jNil))))
    (jSeq (jIfS (jTest (jOp (in2 true) (jVar 1) (jFld ("Web" : Str) ("own_pairs" : Str) (jVar 0))))
    (jRaise ex ("NoLine" : Str) ("NoLine" : Str) [("word" : Str)] (jCons (jVar 1) (jNil)))
    (jNext))
    (jSeq (jAsg (jCB dict1 (jCons (jFld ("Web" : Str) ("own_pairs" : Str) (jVar 0)) (jNil))) (kName 2))
    (jSeqG (jDel (jVar 2) (jVar 1))
    (jRet (jCall sp_checked_web [] noEx (jCons (jFld ("Web" : Str) ("own_houses" : Str) (jVar 0)) (jCons (jVar 2) (jNil))))))))
def t_least_joins (sp_find_parts : Sp2) : TS2 :=
    jSeq (jAsg (jLc (iL (jCall sp_find_parts [] noEx (jCons (jVar 0) (jNil)))) (kName 2) (jYes) (jOp ix2 (jVar 2) (jC (.int 0))) [2]) (kName 1))
    (jRet (jLc (iEnum2 (jCons (jSl (jVar 1) jNoPart (jPart (jUn neg1 (jC (.int 1))))) (jNil))) (kTup 2 (kNames [3, 4])) (jYes) (jTup (jCons (jVar 4) (jCons (jOp ix2 (jVar 1) (jOp add2 (jVar 3) (jC (.int 1)))) (jNil)))) [3, 4]))
def t_is_joins (sp_find_parts : Sp2) (sp_merge_names : Sp2) : TS2 :=
    jSeq (jAsg (jCall sp_find_parts [] noEx (jCons (jVar 0) (jNil))) (kName 2))
    (jSeq (jIfS (jTest (jOp ne2 (jCB len1 (jCons (jVar 1) (jNil))) (jCB max1 (jCons (jC (.int 0)) (jCons (jOp sub2 (jCB len1 (jCons (jVar 2) (jNil))) (jC (.int 1))) (jNil))))))
    (jRet (jC (.bl false)))
    (jNext))
    (jSeq (jAsg (jDnew) (kName 3))
    (jSeq (jFor (iL (jVar 2)) (kName 4)
    (jFor (iL (jVar 4)) (kName 7)
    (jAsg (jOp ix2 (jVar 4) (jC (.int 0))) (kSub (jVar 3) (jVar 7)))))
    (jSeq (jFor (iL (jVar 1)) (kTup 2 (kCons (kName 5) (kCons (kName 6) (kNil))))
    (jSeq (jIfS (jOr (jTest (jOp (in2 true) (jVar 5) (jVar 3))) (jTest (jOp (in2 true) (jVar 6) (jVar 3))))
    (jRet (jC (.bl false)))
    (jNext))
    (jIfS (jNot (jTest (jCall sp_merge_names [] noEx (jCons (jVar 3) (jCons (jVar 5) (jCons (jVar 6) (jNil)))))))
    (jRet (jC (.bl false)))
    (jNext))))
    (jRet (jC (.bl true)))))))
def t_l_store : TS2 :=
    jSeq (jAsg (jCB list1 (jCons (jVar 0) (jNil))) (kName 1))
    (jSeq (jAsg (jOp add2 (jC (.int 7)) (jCB len1 (jCons (jVar 1) (jNil)))) (kName 2))
    (jSeq (jFor (iL (jVar 1)) (kName 3)
    (jAsg (jOp mod2 (jOp add2 (jOp add2 (jOp mul2 (jVar 2) (jC (.int 48271))) (jOp mod2 (jCB int1 (jCons (jVar 3) (jNil))) (jC (.int 2147483629)))) (jC (.int 1))) (jC (.int 2147483647))) (kName 2)))
    (jRet (jLst (jCons (jVar 1) (jCons (jC (.int 0)) (jCons (jC (.int 0)) (jCons (jVar 2) (jCons (jC (.int 0)) (jNil))))))))))
def t_l_take : TS2 :=
    jSeq (jIfS (jTest (jOp lt2 (jVar 1) (jC (.int 2))))
    (jRet (jC (.int 0)))
    (jNext))
    (jSeq (jAsg (jCB int1 (jCons (jOp ix2 (jVar 0) (jC (.int 2))) (jNil))) (kName 2))
    (jSeq (jIfS (jTest (jOp gt2 (jVar 2) (jC (.int 0))))
    (jSeq (jAsg (jOp fdiv2 (jVar 2) (jVar 1)) (kSub (jVar 0) (jC (.int 2))))
    (jRet (jOp mod2 (jVar 2) (jVar 1))))
    (jNext))
    (jSeq (jAsg (jOp add2 (jCB int1 (jCons (jOp ix2 (jVar 0) (jC (.int 4))) (jNil))) (jC (.int 1))) (kSub (jVar 0) (jC (.int 4))))
    (jSeq (jAsg (jCB int1 (jCons (jOp ix2 (jVar 0) (jC (.int 4))) (jNil))) (kName 3))
    (jSeq (jAsg (jOp ix2 (jVar 0) (jC (.int 0))) (kName 4))
    (jSeq (jAsg (jCB int1 (jCons (jOp ix2 (jVar 0) (jC (.int 1))) (jNil))) (kName 5))
    (jSeq (jIfS (jTest (jOp lt2 (jVar 5) (jCB len1 (jCons (jVar 4) (jNil)))))
    (jSeq (jAsg (jCB int1 (jCons (jOp ix2 (jVar 4) (jVar 5)) (jNil))) (kName 6))
    (jSeq (jAsg (jOp add2 (jVar 5) (jC (.int 1))) (kSub (jVar 0) (jC (.int 1))))
    (jSeq (jIfS (jTest (jOp ge2 (jVar 6) (jOp pow2 (jC (.int 10)) (jC (.int 18)))))
    (jSeq (jAsg (jOp fdiv2 (jVar 6) (jVar 1)) (kSub (jVar 0) (jC (.int 2))))
    (jRet (jOp mod2 (jVar 6) (jVar 1))))
    (jNext))
    (jAsg (jOp mod2 (jOp add2 (jOp add2 (jOp mul2 (jVar 6) (jC (.int 48271))) (jOp mul2 (jVar 3) (jC (.int 69621)))) (jC (.int 104729))) (jC (.int 2147483647))) (kName 7)))))
    (jSeq (jAsg (jOp mod2 (jOp add2 (jOp add2 (jOp mul2 (jCB int1 (jCons (jOp ix2 (jVar 0) (jC (.int 3))) (jNil))) (jC (.int 48271))) (jOp mul2 (jVar 3) (jC (.int 69621)))) (jC (.int 1))) (jC (.int 2147483647))) (kName 7))
    (jAsg (jVar 7) (kSub (jVar 0) (jC (.int 3))))))
    (jRet (jOp mod2 (jOp mod2 (jOp add2 (jOp mul2 (jVar 7) (jVar 7)) (jOp fdiv2 (jVar 7) (jC (.int 1009)))) (jC (.int 2147483399))) (jVar 1))))))))))
def t_l_parts : TS2 :=
    jSeq (jAsg (jDnew) (kName 2))
    (jSeq (jFor (iL (jVar 0)) (kName 3)
    (jAsg (jVar 3) (kSub (jVar 2) (jVar 3))))
    (jSeq (jFor (iL (jVar 1)) (kName 4)
    (jSeq (jAsg (jOp ix2 (jVar 2) (jOp ix2 (jVar 4) (jC (.int 1)))) (kName 6))
    (jSeq (jAsg (jOp ix2 (jVar 2) (jOp ix2 (jVar 4) (jC (.int 2)))) (kName 7))
    (jIfS (jTest (jOp ne2 (jVar 6) (jVar 7)))
    (jFor (iL (jVar 0)) (kName 3)
    (jIfS (jOr (jTest (jOp eq2 (jOp ix2 (jVar 2) (jVar 3)) (jVar 6))) (jTest (jOp eq2 (jOp ix2 (jVar 2) (jVar 3)) (jVar 7))))
    (jAsg (jCB min1 (jCons (jVar 6) (jCons (jVar 7) (jNil)))) (kSub (jVar 2) (jVar 3)))
    (jNext)))
    (jNext)))))
    (jSeq (jAsg (jLst (jNil)) (kName 5))
    (jSeq (jFor (iL (jCB sorted1 (jCons (jVar 0) (jNil)))) (kName 3)
    (jIfS (jTest (jOp eq2 (jOp ix2 (jVar 2) (jVar 3)) (jVar 3)))
    (jDrop (jBM "list" append1 (jVar 5) (jCons (jLc (iL (jCB sorted1 (jCons (jVar 0) (jNil)))) (kName 8) (jTest (jOp eq2 (jOp ix2 (jVar 2) (jVar 8)) (jVar 3))) (jVar 8) [8]) (jNil))))
    (jNext)))
    (jRet (jVar 5))))))
def t_l_without : TS2 :=
    jRet (jLc (iL (jVar 0)) (kName 2) (jTest (jOp ne2 (jOp ix2 (jVar 2) (jC (.int 0))) (jVar 1))) (jVar 2) [2])
def t_l_is_joins (sp_l_parts : Sp2) : TS2 :=
    jSeq (jFor (iL (jVar 2)) (kName 3)
    (jIfS (jOr (jTest (jOp eq2 (jOp ix2 (jVar 3) (jC (.int 0))) (jOp ix2 (jVar 3) (jC (.int 1))))) (jOr (jTest (jOp (in2 true) (jOp ix2 (jVar 3) (jC (.int 0))) (jVar 0))) (jTest (jOp (in2 true) (jOp ix2 (jVar 3) (jC (.int 1))) (jVar 0)))))
    (jRet (jC (.bl false)))
    (jNext)))
    (jSeq (jIfS (jTest (jOp ne2 (jCB len1 (jCons (jVar 2) (jNil))) (jCB max1 (jCons (jC (.int 0)) (jCons (jOp sub2 (jCB len1 (jCons (jCall sp_l_parts [] noEx (jCons (jVar 0) (jCons (jVar 1) (jNil)))) (jNil))) (jC (.int 1))) (jNil))))))
    (jRet (jC (.bl false)))
    (jNext))
    (jRet (jOp le2 (jCB len1 (jCons (jCall sp_l_parts [] noEx (jCons (jVar 0) (jCons (jOp add2 (jVar 1) (jLc (iL (jVar 2)) (kName 3) (jYes) (jTup (jCons (jC (.str ("" : Str))) (jCons (jOp ix2 (jVar 3) (jC (.int 0))) (jCons (jOp ix2 (jVar 3) (jC (.int 1))) (jNil))))) [3])) (jNil)))) (jNil))) (jC (.int 1)))))
def t_l_mixed (sp_l_take : Sp2) : TS2 :=
    jSeq (jAsg (jCB list1 (jCons (jVar 1) (jNil))) (kName 2))
    (jSeq (jFor (iR1 (jCons (jCB len1 (jCons (jVar 2) (jNil))) (jNil))) (kName 3)
    (jSeq (jAsg (jOp add2 (jVar 3) (jCall sp_l_take [] noEx (jCons (jVar 0) (jCons (jOp sub2 (jCB len1 (jCons (jVar 2) (jNil))) (jVar 3)) (jNil))))) (kName 4))
    (jAsg (jTup (jCons (jOp ix2 (jVar 2) (jVar 4)) (jCons (jOp ix2 (jVar 2) (jVar 3)) (jNil)))) (kTup 2 (kCons (kSub (jVar 2) (jVar 3)) (kCons (kSub (jVar 2) (jVar 4)) (kNil)))))))
    (jRet (jVar 2)))
def t_l_words (sp_l_take : Sp2) (sp_l_mixed : Sp2) : TS2 :=
    jSeq (jAsg (jC (.str ("0123456789abcdefghijklmnopqrstuvwxyz" : Str))) (kName 2))
    (jSeq (jAsg (jOp ix2 (jVar 2) (jOp add2 (jC (.int 10)) (jCall sp_l_take [] noEx (jCons (jVar 0) (jCons (jC (.int 26)) (jNil)))))) (kName 3))
    (jSeq (jAsg (jCall sp_l_take [] noEx (jCons (jVar 0) (jCons (jC (.int 4)) (jNil)))) (kName 4))
    (jSeq (jIfS (jAnd (jTest (jOp eq2 (jVar 4) (jC (.int 0)))) (jTest (jOp le2 (jVar 1) (jC (.int 12)))))
    (jRet (jCall sp_l_mixed [] noEx (jCons (jVar 0) (jCons (jLc (iR1 (jCons (jVar 1) (jNil))) (kName 5) (jYes) (jSl (jOp mul2 (jVar 3) (jC (.int 12))) jNoPart (jPart (jOp add2 (jVar 5) (jC (.int 1))))) [5]) (jNil)))))
    (jNext))
    (jSeq (jFor (iR1 (jCons (jCall sp_l_take [] noEx (jCons (jVar 0) (jCons (jC (.int 6)) (jNil)))) (jNil))) (kName 5)
    (jAsg (jOp add2 (jVar 3) (jOp ix2 (jVar 2) (jCall sp_l_take [] noEx (jCons (jVar 0) (jCons (jC (.int 36)) (jNil)))))) (kName 3)))
    (jSeq (jAsg (jOp mul2 (jOp ix2 (jVar 2) (jCall sp_l_take [] noEx (jCons (jVar 0) (jCons (jC (.int 36)) (jNil))))) (jCall sp_l_take [] noEx (jCons (jVar 0) (jCons (jC (.int 3)) (jNil))))) (kName 6))
    (jSeq (jAsg (jCall sp_l_take [] noEx (jCons (jVar 0) (jCons (jC (.int 1296)) (jNil)))) (kName 7))
    (jSeq (jAsg (jOp ix2 (jLst (jCons (jC (.int 1)) (jCons (jC (.int 5)) (jCons (jC (.int 37)) (jCons (jC (.int 1295)) (jNil)))))) (jVar 4)) (kName 8))
    (jSeq (jAsg (jLst (jNil)) (kName 9))
    (jSeq (jFor (iR1 (jCons (jVar 1) (jNil))) (kName 5)
    (jSeq (jAsg (jOp mod2 (jCB int1 (jCons (jOp add2 (jVar 7) (jOp mul2 (jVar 5) (jVar 8))) (jNil))) (jC (.int 1296))) (kName 10))
    (jDrop (jBM "list" append1 (jVar 9) (jCons (jOp add2 (jOp add2 (jOp add2 (jVar 3) (jOp ix2 (jVar 2) (jOp fdiv2 (jVar 10) (jC (.int 36))))) (jOp ix2 (jVar 2) (jOp mod2 (jCB int1 (jCons (jVar 10) (jNil))) (jC (.int 36))))) (jOp mul2 (jVar 6) (jOp mod2 (jCB int1 (jCons (jVar 10) (jNil))) (jC (.int 3))))) (jNil))))))
    (jRet (jCall sp_l_mixed [] noEx (jCons (jVar 0) (jCons (jVar 9) (jNil))))))))))))))
def t_l_ends (sp_l_take : Sp2) : TS2 :=
    jSeq (jAsg (jCB len1 (jCons (jVar 1) (jNil))) (kName 4))
    (jSeq (jAsg (jOp mod2 (jCB int1 (jCons (jVar 3) (jNil))) (jVar 4)) (kName 5))
    (jSeq (jAsg (jOp mod2 (jCB int1 (jCons (jOp add2 (jVar 5) (jC (.int 1))) (jNil))) (jVar 4)) (kName 6))
    (jSeq (jIfS (jTest (jOp eq2 (jVar 2) (jC (.int 1))))
    (jSeq (jAsg (jOp add2 (jC (.int 1)) (jOp mod2 (jCB int1 (jCons (jVar 3) (jNil))) (jOp sub2 (jVar 4) (jC (.int 1))))) (kName 6))
    (jAsg (jCall sp_l_take [] noEx (jCons (jVar 0) (jCons (jVar 6) (jNil)))) (kName 5)))
    (jNext))
    (jSeq (jIfS (jTest (jOp eq2 (jVar 2) (jC (.int 2))))
    (jAsg (jOp mod2 (jCB int1 (jCons (jOp add2 (jOp add2 (jVar 5) (jC (.int 1))) (jOp fdiv2 (jVar 3) (jVar 4))) (jNil))) (jVar 4)) (kName 6))
    (jNext))
    (jSeq (jIfS (jOr (jTest (jOp eq2 (jVar 2) (jC (.int 4)))) (jAnd (jTest (jOp eq2 (jVar 2) (jC (.int 3)))) (jTest (jOp ge2 (jVar 3) (jOp sub2 (jVar 4) (jC (.int 1)))))))
    (jSeq (jAsg (jCall sp_l_take [] noEx (jCons (jVar 0) (jCons (jVar 4) (jNil)))) (kName 5))
    (jAsg (jOp mod2 (jCB int1 (jCons (jOp add2 (jOp add2 (jVar 5) (jC (.int 1))) (jCall sp_l_take [] noEx (jCons (jVar 0) (jCons (jVar 4) (jNil))))) (jNil))) (jVar 4)) (kName 6)))
    (jNext))
    (jSeq (jIfS (jAnd (jTest (jOp eq2 (jVar 2) (jC (.int 5)))) (jTest (jOp gt2 (jVar 3) (jC (.int 0)))))
    (jAsg (jOp mod2 (jCB int1 (jCons (jOp add2 (jVar 5) (jC (.int 2))) (jNil))) (jVar 4)) (kName 6))
    (jNext))
    (jSeq (jIfS (jTest (jOp eq2 (jVar 5) (jVar 6)))
    (jAsg (jOp mod2 (jCB int1 (jCons (jOp add2 (jVar 5) (jC (.int 1))) (jNil))) (jVar 4)) (kName 6))
    (jNext))
    (jRet (jTup (jCons (jCB min1 (jCons (jOp ix2 (jVar 1) (jVar 5)) (jCons (jOp ix2 (jVar 1) (jVar 6)) (jNil)))) (jCons (jCB max1 (jCons (jOp ix2 (jVar 1) (jVar 5)) (jCons (jOp ix2 (jVar 1) (jVar 6)) (jNil)))) (jNil))))))))))))
def t_l_drawn_web (sp_l_take : Sp2) (sp_l_words : Sp2) (sp_l_ends : Sp2) : TS2 :=
    jSeq (jAsg (jOp add2 (jC (.int 2)) (jCall sp_l_take [] noEx (jCons (jVar 0) (jCons (jC (.int 8)) (jNil))))) (kName 2))
    (jSeq (jAsg (jCall sp_l_take [] noEx (jCons (jVar 0) (jCons (jC (.int 15)) (jNil)))) (kName 3))
    (jSeq (jAsg (jCall sp_l_take [] noEx (jCons (jVar 0) (jCons (jC (.int 16)) (jNil)))) (kName 4))
    (jSeq (jIfS (jTest (jOp lt2 (jVar 4) (jC (.int 2))))
    (jAsg (jVar 4) (kName 2))
    (jNext))
    (jSeq (jIfS (jTest (jOp eq2 (jVar 4) (jC (.int 2))))
    (jSeq (jAsg (jVar 1) (kName 2))
    (jAsg (jCall sp_l_take [] noEx (jCons (jVar 0) (jCons (jOp add2 (jOp mul2 (jC (.int 3)) (jVar 1)) (jC (.int 1))) (jNil)))) (kName 3)))
    (jNext))
    (jSeq (jAsg (jCall sp_l_words [] noEx (jCons (jVar 0) (jCons (jVar 2) (jNil)))) (kName 5))
    (jSeq (jAsg (jCall sp_l_words [] noEx (jCons (jVar 0) (jCons (jVar 3) (jNil)))) (kName 6))
    (jSeq (jIfS (jTest (jOp eq2 (jCall sp_l_take [] noEx (jCons (jVar 0) (jCons (jC (.int 4)) (jNil)))) (jC (.int 0))))
    (jAsg (jOp add2 (jVar 5) (jLc (iL (jVar 6)) (kName 11) (jTest (jOp (in2 true) (jVar 11) (jVar 5))) (jVar 11) [11])) (kName 6))
    (jNext))
    (jSeq (jAsg (jCall sp_l_take [] noEx (jCons (jVar 0) (jCons (jC (.int 6)) (jNil)))) (kName 7))
    (jSeq (jAsg (jLst (jNil)) (kName 8))
    (jSeq (jFor (iR1 (jCons (jOp mul2 (jVar 3) (jCB int1 (jCons (jOp gt2 (jVar 2) (jC (.int 1))) (jNil)))) (jNil))) (kName 9)
    (jSeq (jAsg (jCall sp_l_ends [] noEx (jCons (jVar 0) (jCons (jVar 5) (jCons (jVar 7) (jCons (jVar 9) (jNil)))))) (kName 10))
    (jDrop (jBM "list" append1 (jVar 8) (jCons (jTup (jCons (jOp ix2 (jVar 6) (jVar 9)) (jCons (jOp ix2 (jVar 10) (jC (.int 0))) (jCons (jOp ix2 (jVar 10) (jC (.int 1))) (jNil))))) (jNil))))))
    (jRet (jTup (jCons (jVar 5) (jCons (jVar 8) (jNil)))))))))))))))
def t_l_plain (sp : Sp2) : TS2 :=
    jSeq (jIfS (jTest (jOp (is2 false) (jVar 0) (jC .non)))
    (jRet (jTup (jCons (jC (.str ("none" : Str))) (jCons (jC (.str ("" : Str))) (jNil)))))
    (jNext))
    (jSeq (jIfS (jTest (jCB (isi .bl) (jCons (jVar 0) (jCons (jC (.ty "bool")) jNil))))
    (jRet (jTup (jCons (jC (.str ("bool" : Str))) (jCons (jCB str1 (jCons (jVar 0) (jNil))) (jNil)))))
    (jNext))
    (jSeq (jIfS (jTest (jCB (isi .int) (jCons (jVar 0) (jCons (jC (.ty "int")) jNil))))
    (jRet (jTup (jCons (jC (.str ("int" : Str))) (jCons (jVar 0) (jNil)))))
    (jNext))
    (jSeq (jIfS (jTest (jCB (isi .str) (jCons (jVar 0) (jCons (jC (.ty "str")) jNil))))
    (jRet (jTup (jCons (jC (.str ("str" : Str))) (jCons (jVar 0) (jNil)))))
    (jNext))
    (jSeq (jIfS (jTest (jCB (isi .lst) (jCons (jVar 0) (jCons (jC (.ty "list")) jNil))))
    (jRet (jTup (jCons (jC (.str ("list" : Str))) (jCons (jCB tuple1 (jCons (jLc (iL (jVar 0)) (kName 1) (jYes) (jCall sp [] noEx (jCons (jVar 1) (jNil))) [1]) (jNil))) (jNil)))))
    (jNext))
    (jSeq (jIfS (jTest (jCB (isi .tup) (jCons (jVar 0) (jCons (jC (.ty "tuple")) jNil))))
    (jRet (jTup (jCons (jC (.str ("tuple" : Str))) (jCons (jCB tuple1 (jCons (jLc (iT (jVar 0)) (kName 1) (jYes) (jCall sp [] noEx (jCons (jVar 1) (jNil))) [1]) (jNil))) (jNil)))))
    (jNext))
    (jRet (jTup (jCons (jC (.str ("other" : Str))) (jCons (jC (.str ("" : Str))) (jNil))))))))))
def t_l_passed (sp_l_take : Sp2) : TS2 :=
    jSeq (jAsg (jLst (jNil)) (kName 2))
    (jSeq (jFor (iL (jVar 1)) (kName 3)
    (jSeq (jAsg (jTup (jCons (jOp ix2 (jVar 3) (jC (.int 0))) (jCons (jOp ix2 (jVar 3) (jC (.int 2))) (jCons (jOp ix2 (jVar 3) (jC (.int 1))) (jNil))))) (kName 4))
    (jDrop (jBM "list" append1 (jVar 2) (jCons (jOp ix2 (jLst (jCons (jVar 3) (jCons (jVar 4) (jCons (jCB list1 (jCons (jVar 3) (jNil))) (jCons (jCB list1 (jCons (jVar 4) (jNil))) (jNil)))))) (jCall sp_l_take [] noEx (jCons (jVar 0) (jCons (jC (.int 4)) (jNil))))) (jNil))))))
    (jRet (jVar 2)))
def t_l_unused : TS2 :=
    jSeq (jAsg (jLc (iL (jVar 0)) (kName 2) (jYes) (jOp ix2 (jVar 2) (jC (.int 0))) [2]) (kName 1))
    (jRet (jOp ix2 (jLc (iL (jLc (iR1 (jCons (jC (.int 97)) (jNil))) (kName 4) (jYes) (jOp add2 (jC (.str ("n" : Str))) (jCB str1 (jCons (jVar 4) (jNil)))) [4])) (kName 3) (jTest (jOp (in2 true) (jVar 3) (jVar 1))) (jVar 3) [3]) (jC (.int 0))))
def t_l_any_joins (sp_l_mixed : Sp2) (sp_l_take : Sp2) : TS2 :=
    jSeq (jAsg (jCall sp_l_mixed [] noEx (jCons (jVar 0) (jCons (jVar 1) (jNil)))) (kName 2))
    (jSeq (jAsg (jLst (jNil)) (kName 3))
    (jSeq (jFor (iR2 (jCons (jC (.int 1)) (jCons (jCB len1 (jCons (jVar 2) (jNil))) (jNil)))) (kName 4)
    (jSeq (jAsg (jOp ix2 (jVar 2) (jCall sp_l_take [] noEx (jCons (jVar 0) (jCons (jVar 4) (jNil))))) (kName 5))
    (jSeq (jAsg (jOp ix2 (jVar 5) (jCall sp_l_take [] noEx (jCons (jVar 0) (jCons (jCB len1 (jCons (jVar 5) (jNil))) (jNil))))) (kName 6))
    (jSeq (jAsg (jOp ix2 (jOp ix2 (jVar 2) (jVar 4)) (jCall sp_l_take [] noEx (jCons (jVar 0) (jCons (jCB len1 (jCons (jOp ix2 (jVar 2) (jVar 4)) (jNil))) (jNil))))) (kName 7))
    (jDrop (jBM "list" append1 (jVar 3) (jCons (jOp ix2 (jLst (jCons (jTup (jCons (jVar 6) (jCons (jVar 7) (jNil)))) (jCons (jTup (jCons (jVar 7) (jCons (jVar 6) (jNil)))) (jNil)))) (jCall sp_l_take [] noEx (jCons (jVar 0) (jCons (jC (.int 2)) (jNil))))) (jNil))))))))
    (jRet (jCall sp_l_mixed [] noEx (jCons (jVar 0) (jCons (jVar 3) (jNil)))))))
def t_l_bent_joins (sp_l_take : Sp2) : TS2 :=
    jSeq (jAsg (jOp add2 (jVar 1) (jLst (jCons (jC (.str ("" : Str))) (jCons (jC (.str ("A" : Str))) (jCons (jC (.str ("zz" : Str))) (jNil)))))) (kName 3))
    (jSeq (jAsg (jOp ix2 (jVar 3) (jCall sp_l_take [] noEx (jCons (jVar 0) (jCons (jCB len1 (jCons (jVar 3) (jNil))) (jNil))))) (kName 4))
    (jSeq (jAsg (jTup (jCons (jVar 4) (jCons (jOp ix2 (jVar 3) (jCall sp_l_take [] noEx (jCons (jVar 0) (jCons (jCB len1 (jCons (jVar 3) (jNil))) (jNil))))) (jNil)))) (kName 5))
    (jSeq (jAsg (jCall sp_l_take [] noEx (jCons (jVar 0) (jCons (jCB len1 (jCons (jVar 2) (jNil))) (jNil)))) (kName 6))
    (jSeq (jAsg (jCall sp_l_take [] noEx (jCons (jVar 0) (jCons (jC (.int 6)) (jNil)))) (kName 7))
    (jSeq (jIfS (jTest (jOp eq2 (jVar 7) (jC (.int 0))))
    (jRet (jOp add2 (jSl (jVar 2) jNoPart (jPart (jVar 6))) (jSl (jVar 2) (jPart (jOp add2 (jVar 6) (jC (.int 1)))) jNoPart)))
    (jNext))
    (jSeq (jIfS (jTest (jOp eq2 (jVar 7) (jC (.int 1))))
    (jRet (jOp add2 (jOp add2 (jSl (jVar 2) jNoPart (jPart (jVar 6))) (jLst (jCons (jVar 5) (jNil)))) (jSl (jVar 2) (jPart (jVar 6)) jNoPart)))
    (jNext))
    (jSeq (jIfS (jTest (jOp eq2 (jVar 7) (jC (.int 2))))
    (jRet (jOp add2 (jVar 2) (jSl (jVar 2) (jPart (jVar 6)) (jPart (jOp add2 (jVar 6) (jC (.int 1)))))))
    (jNext))
    (jSeq (jIfS (jTest (jOp eq2 (jVar 7) (jC (.int 3))))
    (jRet (jOp add2 (jOp add2 (jSl (jVar 2) jNoPart (jPart (jVar 6))) (jLst (jCons (jTup (jCons (jVar 4) (jCons (jVar 4) (jNil)))) (jNil)))) (jSl (jVar 2) (jPart (jOp add2 (jVar 6) (jC (.int 1)))) jNoPart)))
    (jNext))
    (jSeq (jIfS (jTest (jOp eq2 (jVar 7) (jC (.int 4))))
    (jRet (jOp add2 (jOp add2 (jSl (jVar 2) jNoPart (jPart (jVar 6))) (jSl (jVar 2) jNoPart (jPart (jC (.int 1))))) (jSl (jVar 2) (jPart (jOp add2 (jVar 6) (jC (.int 1)))) jNoPart)))
    (jNext))
    (jRet (jOp add2 (jOp add2 (jSl (jVar 2) jNoPart (jPart (jVar 6))) (jLst (jCons (jVar 5) (jNil)))) (jSl (jVar 2) (jPart (jOp add2 (jVar 6) (jC (.int 1)))) jNoPart))))))))))))
def t_l_judged (sp_l_plain : Sp2) (sp_l_is_joins : Sp2) (sp_is_joins : Sp2) : TS2 :=
    jSeq (jAsg (jCall sp_l_plain [] noEx (jCons (jVar 3) (jNil))) (kName 4))
    (jSeq (jAsg (jCall sp_l_is_joins [] noEx (jCons (jVar 1) (jCons (jVar 2) (jCons (jVar 3) (jNil))))) (kName 5))
    (jRet (jAndV (jOp eq2 (jCall sp_l_plain [] noEx (jCons (jCall sp_is_joins [] noEx (jCons (jVar 0) (jCons (jVar 3) (jNil)))) (jNil))) (jCall sp_l_plain [] noEx (jCons (jVar 5) (jNil)))) (jOp eq2 (jCall sp_l_plain [] noEx (jCons (jVar 3) (jNil))) (jVar 4)))))
def t_l_joined_up (sp_Web_with_line : Sp2) (sp_find_parts : Sp2) (sp_l_unused : Sp2) (sp_Web_lines : Sp2) : TS2 :=
    jSeq (jAsg (jVar 0) (kName 2))
    (jSeq (jFor (iL (jVar 1)) (kName 3)
    (jAsg (jMeth ("Web" : Str) ("with_line" : Str) sp_Web_with_line [] noEx (jVar 2) (jCons (jCall sp_l_unused [] noEx (jCons (jProp ("Web" : Str) sp_Web_lines noEx (jVar 2)) (jNil))) (jCons (jOp ix2 (jVar 3) (jC (.int 0))) (jCons (jOp ix2 (jVar 3) (jC (.int 1))) (jNil))))) (kName 2)))
    (jRet (jCB len1 (jCons (jCall sp_find_parts [] noEx (jCons (jVar 2) (jNil))) (jNil)))))
def t_l_joins_hold (sp_least_joins : Sp2) (sp_l_plain : Sp2) (sp_l_parts : Sp2) (sp_is_joins : Sp2) (sp_l_joined_up : Sp2) : TS2 :=
    jSeq (jAsg (jLc (iL (jCall sp_l_parts [] noEx (jCons (jVar 1) (jCons (jVar 2) (jNil))))) (kName 7) (jYes) (jOp ix2 (jVar 7) (jC (.int 0))) [7]) (kName 3))
    (jSeq (jAsg (jLc (iR1 (jCons (jOp sub2 (jCB len1 (jCons (jVar 3) (jNil))) (jC (.int 1))) (jNil))) (kName 6) (jYes) (jTup (jCons (jOp ix2 (jVar 3) (jVar 6)) (jCons (jOp ix2 (jVar 3) (jOp add2 (jVar 6) (jC (.int 1)))) (jNil)))) [6]) (kName 4))
    (jSeq (jAsg (jCall sp_least_joins [] noEx (jCons (jVar 0) (jNil))) (kName 5))
    (jSeq (jIfS (jOr (jTest (jOp ne2 (jCall sp_l_plain [] noEx (jCons (jVar 5) (jNil))) (jCall sp_l_plain [] noEx (jCons (jVar 4) (jNil))))) (jTest (jOp (is2 true) (jCall sp_is_joins [] noEx (jCons (jVar 0) (jCons (jVar 5) (jNil)))) (jC (.bl true)))))
    (jRet (jC (.bl false)))
    (jNext))
    (jSeq (jFor (iR1 (jCons (jCB len1 (jCons (jVar 4) (jNil))) (jNil))) (kName 6)
    (jIfS (jOr (jTest (jOp (is2 true) (jCall sp_is_joins [] noEx (jCons (jVar 0) (jCons (jOp add2 (jSl (jVar 5) jNoPart (jPart (jVar 6))) (jSl (jVar 5) (jPart (jOp add2 (jVar 6) (jC (.int 1)))) jNoPart)) (jNil)))) (jC (.bl false)))) (jTest (jOp (is2 true) (jCall sp_is_joins [] noEx (jCons (jVar 0) (jCons (jOp add2 (jVar 5) (jLst (jCons (jOp ix2 (jVar 5) (jVar 6)) (jNil)))) (jNil)))) (jC (.bl false)))))
    (jRet (jC (.bl false)))
    (jNext)))
    (jSeq (jIfS (jTest (jOp le2 (jOp add2 (jCB len1 (jCons (jVar 2) (jNil))) (jCB len1 (jCons (jVar 4) (jNil)))) (jC (.int 30))))
    (jSeq (jIfS (jTest (jOp ne2 (jCall sp_l_joined_up [] noEx (jCons (jVar 0) (jCons (jVar 5) (jNil)))) (jCB min1 (jCons (jC (.int 1)) (jCons (jCB len1 (jCons (jVar 1) (jNil))) (jNil))))))
    (jRet (jC (.bl false)))
    (jNext))
    (jIfS (jAnd (jTest (jOp gt2 (jCB len1 (jCons (jVar 4) (jNil))) (jC (.int 0)))) (jTest (jOp ne2 (jCall sp_l_joined_up [] noEx (jCons (jVar 0) (jCons (jSl (jVar 5) (jPart (jC (.int 1))) jNoPart) (jNil)))) (jC (.int 2)))))
    (jRet (jC (.bl false)))
    (jNext)))
    (jNext))
    (jSeq (jDrop (jBM "list" append1 (jVar 5) (jCons (jTup (jCons (jC (.str ("z" : Str))) (jCons (jC (.str ("z" : Str))) (jNil)))) (jNil))))
    (jRet (jOp eq2 (jCall sp_l_plain [] noEx (jCons (jCall sp_least_joins [] noEx (jCons (jVar 0) (jNil))) (jNil))) (jCall sp_l_plain [] noEx (jCons (jVar 4) (jNil)))))))))))
def t_law (sp_l_store : Sp2) (sp_l_drawn_web : Sp2) (sp_Web_init : Sp2) (sp_l_joins_hold : Sp2) (sp_l_take : Sp2) (sp_l_passed : Sp2) (sp_l_any_joins : Sp2) (sp_l_unused : Sp2) (sp_Web_with_line : Sp2) (sp_l_parts : Sp2) (sp_l_judged : Sp2) (sp_Web_houses : Sp2) (sp_Web_lines : Sp2) (sp_is_joins : Sp2) (sp_l_bent_joins : Sp2) (sp_Web_without_line : Sp2) (sp_l_without : Sp2) : TS2 :=
    jSeq (jAsg (jCall sp_l_store [] noEx (jCons (jVar 0) (jNil))) (kName 1))
    (jSeq (jAsg (jCall sp_l_drawn_web [] noEx (jCons (jVar 1) (jCons (jC (.int 32)) (jNil)))) (kTup 2 (kCons (kName 2) (kCons (kName 3) (kNil)))))
    (jSeq (jIfS (jTest (jOp eq2 (jCall sp_l_take [] noEx (jCons (jVar 1) (jCons (jC (.int 2)) (jNil)))) (jC (.int 0))))
    (jAsg (jSl (jVar 3) jNoPart (jPart (jOp fdiv2 (jCB len1 (jCons (jVar 2) (jNil))) (jC (.int 2))))) (kName 3))
    (jNext))
    (jSeq (jAsg (jMake ("Web" : Str) sp_Web_init [] noEx (jCons (jCB list1 (jCons (jVar 2) (jNil))) (jCons (jCall sp_l_passed [] noEx (jCons (jVar 1) (jCons (jVar 3) (jNil)))) (jNil)))) (kName 4))
    (jSeq (jIfS (jNot (jTest (jCall sp_l_joins_hold [] noEx (jCons (jVar 4) (jCons (jVar 2) (jCons (jVar 3) (jNil)))))))
    (jRet (jC (.bl false)))
    (jNext))
    (jSeq (jFor (iR1 (jCons (jC (.int 4)) (jNil))) (kName 5)
    (jSeq (jAsg (jCall sp_l_any_joins [] noEx (jCons (jVar 1) (jCons (jCall sp_l_parts [] noEx (jCons (jVar 2) (jCons (jVar 3) (jNil)))) (jNil)))) (kName 6))
    (jSeq (jIfS (jOr (jTest (jOp (is2 true) (jCall sp_is_joins [] noEx (jCons (jVar 4) (jCons (jCB list1 (jCons (jVar 6) (jNil))) (jNil)))) (jC (.bl true)))) (jNot (jTest (jCall sp_l_judged [] noEx (jCons (jVar 4) (jCons (jVar 2) (jCons (jVar 3) (jCons (jVar 6) (jNil)))))))))
    (jRet (jC (.bl false)))
    (jNext))
    (jIfS (jNot (jTest (jCall sp_l_judged [] noEx (jCons (jVar 4) (jCons (jVar 2) (jCons (jVar 3) (jCons (jCall sp_l_bent_joins [] noEx (jCons (jVar 1) (jCons (jVar 2) (jCons (jVar 6) (jNil))))) (jNil))))))))
    (jRet (jC (.bl false)))
    (jNext)))))
    (jSeq (jIfS (jAnd (jTest (jOp gt2 (jCB len1 (jCons (jVar 2) (jNil))) (jC (.int 1)))) (jTest (jOp le2 (jCB len1 (jCons (jVar 3) (jNil))) (jC (.int 30)))))
    (jSeq (jAsg (jCall sp_l_take [] noEx (jCons (jVar 1) (jCons (jCB len1 (jCons (jVar 2) (jNil))) (jNil)))) (kName 7))
    (jSeq (jAsg (jOp mod2 (jCB int1 (jCons (jOp add2 (jOp add2 (jVar 7) (jC (.int 1))) (jCall sp_l_take [] noEx (jCons (jVar 1) (jCons (jOp sub2 (jCB len1 (jCons (jVar 2) (jNil))) (jC (.int 1))) (jNil))))) (jNil))) (jCB len1 (jCons (jVar 2) (jNil)))) (kName 8))
    (jSeq (jAsg (jCall sp_l_unused [] noEx (jCons (jVar 3) (jNil))) (kName 9))
    (jSeq (jAsg (jOp add2 (jVar 3) (jLst (jCons (jTup (jCons (jVar 9) (jCons (jCB min1 (jCons (jOp ix2 (jVar 2) (jVar 7)) (jCons (jOp ix2 (jVar 2) (jVar 8)) (jNil)))) (jCons (jCB max1 (jCons (jOp ix2 (jVar 2) (jVar 7)) (jCons (jOp ix2 (jVar 2) (jVar 8)) (jNil)))) (jNil))))) (jNil)))) (kName 10))
    (jSeq (jAsg (jMeth ("Web" : Str) ("with_line" : Str) sp_Web_with_line [] noEx (jVar 4) (jCons (jVar 9) (jCons (jOp ix2 (jVar 2) (jVar 7)) (jCons (jOp ix2 (jVar 2) (jVar 8)) (jNil))))) (kName 11))
    (jSeq (jIfS (jNot (jTest (jCall sp_l_joins_hold [] noEx (jCons (jVar 11) (jCons (jVar 2) (jCons (jVar 10) (jNil)))))))
    (jRet (jC (.bl false)))
    (jNext))
    (jFor (iL (jSl (jVar 3) jNoPart (jPart (jC (.int 2))))) (kName 12)
    (jIfS (jNot (jTest (jCall sp_l_joins_hold [] noEx (jCons (jMeth ("Web" : Str) ("without_line" : Str) sp_Web_without_line [] noEx (jVar 11) (jCons (jOp ix2 (jVar 12) (jC (.int 0))) (jNil))) (jCons (jVar 2) (jCons (jCall sp_l_without [] noEx (jCons (jVar 10) (jCons (jOp ix2 (jVar 12) (jC (.int 0))) (jNil)))) (jNil)))))))
    (jRet (jC (.bl false)))
    (jNext)))))))))
    (jNext))
    (jSeq (jIfS (jOr (jTest (jOp ne2 (jProp ("Web" : Str) sp_Web_houses noEx (jVar 4)) (jCB sorted1 (jCons (jVar 2) (jNil))))) (jTest (jOp ne2 (jProp ("Web" : Str) sp_Web_lines noEx (jVar 4)) (jCB sorted1 (jCons (jVar 3) (jNil))))))
    (jRet (jC (.bl false)))
    (jNext))
    (jRet (jCall sp_l_joins_hold [] noEx (jCons (jVar 4) (jCons (jVar 2) (jCons (jVar 3) (jNil)))))))))))))

/-! ### the row: its defs, scopes, the facts of its top (printed by gen.py) -/
def top (i : Nat) : Stmt := PySem.Challenge.pw_keptjoined_k58_fewest_joins.main.body.getD i (.Pass ⟨0, 0, 0, 0⟩)
abbrev s_is_letter : Stmt := top 13
abbrev s_is_digit : Stmt := top 14
abbrev s_is_name : Stmt := top 15
abbrev s_check_name : Stmt := top 16
abbrev s_check_houses : Stmt := top 17
abbrev s_ordered : Stmt := top 18
abbrev s_lines_by_house_plain : Stmt := top 20
abbrev s_step_counts : Stmt := top 22
abbrev s_find_parts : Stmt := top 23
abbrev s_merge_names : Stmt := top 25
abbrev s_check_new_line : Stmt := top 27
abbrev s_line_tuples : Stmt := top 28
abbrev s_lines_by_house_webs : Stmt := top 29
abbrev s_checked_web : Stmt := top 31
abbrev s_Web_init : Stmt := inClass (top 32) 0
abbrev s_Web_houses : Stmt := inClass (top 32) 1
abbrev s_Web_lines : Stmt := inClass (top 32) 2
abbrev s_Web_with_line : Stmt := inClass (top 32) 6
abbrev s_Web_without_line : Stmt := inClass (top 32) 7
abbrev s_least_joins : Stmt := top 34
abbrev s_is_joins : Stmt := top 35
abbrev s_l_store : Stmt := top 37
abbrev s_l_take : Stmt := top 38
abbrev s_l_parts : Stmt := top 39
abbrev s_l_without : Stmt := top 40
abbrev s_l_is_joins : Stmt := top 41
abbrev s_l_mixed : Stmt := top 42
abbrev s_l_words : Stmt := top 43
abbrev s_l_ends : Stmt := top 44
abbrev s_l_drawn_web : Stmt := top 45
abbrev s_l_plain : Stmt := top 46
abbrev s_l_passed : Stmt := top 47
abbrev s_l_unused : Stmt := top 48
abbrev s_l_any_joins : Stmt := top 49
abbrev s_l_bent_joins : Stmt := top 50
abbrev s_l_judged : Stmt := top 51
abbrev s_l_joined_up : Stmt := top 52
abbrev s_l_joins_hold : Stmt := top 53
abbrev s_law : Stmt := top 54
abbrev s_base : Stmt := inClass (top 2) 0
abbrev s_kBadName : Stmt := inClass (top 3) 0
abbrev w_BadName : SupW := ⟨"BadName", "__init__", "BadName.__init__", defArgs s_kBadName, defBody s_kBadName, defScope s_kBadName⟩
abbrev s_kTaken : Stmt := inClass (top 7) 0
abbrev w_Taken : SupW := ⟨"Taken", "__init__", "Taken.__init__", defArgs s_kTaken, defBody s_kTaken, defScope s_kTaken⟩
abbrev s_kTooMany : Stmt := inClass (top 8) 0
abbrev w_TooMany : SupW := ⟨"TooMany", "__init__", "TooMany.__init__", defArgs s_kTooMany, defBody s_kTooMany, defScope s_kTooMany⟩
abbrev s_kNoHouse : Stmt := inClass (top 4) 0
abbrev w_NoHouse : SupW := ⟨"NoHouse", "__init__", "NoHouse.__init__", defArgs s_kNoHouse, defBody s_kNoHouse, defScope s_kNoHouse⟩
abbrev s_kSelfLine : Stmt := inClass (top 6) 0
abbrev w_SelfLine : SupW := ⟨"SelfLine", "__init__", "SelfLine.__init__", defArgs s_kSelfLine, defBody s_kSelfLine, defScope s_kSelfLine⟩
abbrev s_kNoLine : Stmt := inClass (top 5) 0
abbrev w_NoLine : SupW := ⟨"NoLine", "__init__", "NoLine.__init__", defArgs s_kNoLine, defBody s_kNoLine, defScope s_kNoLine⟩
abbrev FnP (K : PySem.W.Frag) (x : Str) (st : Stmt) (f : Addr) (fd : FuncData) : Prop := FunD K x x (defArgs st) (defBody st) (defScope st) [] [] f fd
structure Txt (P : Program) (K : PySem.W.Frag) (mg : Str → Option Value) (fa : Nat → Addr) (fd : Nat → FuncData) : Prop where
  F_is_letter : FnP K "is_letter" s_is_letter (fa 0) (fd 0)
  g_is_letter : mg "is_letter" = some (.ref (fa 0))
  F_is_digit : FnP K "is_digit" s_is_digit (fa 1) (fd 1)
  g_is_digit : mg "is_digit" = some (.ref (fa 1))
  F_is_name : FnP K "is_name" s_is_name (fa 2) (fd 2)
  g_is_name : mg "is_name" = some (.ref (fa 2))
  F_check_name : FnP K "check_name" s_check_name (fa 3) (fd 3)
  g_check_name : mg "check_name" = some (.ref (fa 3))
  F_check_houses : FnP K "check_houses" s_check_houses (fa 4) (fd 4)
  g_check_houses : mg "check_houses" = some (.ref (fa 4))
  F_ordered : FnP K "ordered" s_ordered (fa 5) (fd 5)
  g_ordered : mg "ordered" = some (.ref (fa 5))
  F_lines_by_house_plain : FnP K "lines_by_house" s_lines_by_house_plain (fa 6) (fd 6)
  g_lines_by_house_plain : mg "lines_by_house_plain" = some (.ref (fa 6))
  F_step_counts : FnP K "step_counts" s_step_counts (fa 7) (fd 7)
  g_step_counts : mg "step_counts" = some (.ref (fa 7))
  F_find_parts : FnP K "find_parts" s_find_parts (fa 8) (fd 8)
  g_find_parts : mg "find_parts" = some (.ref (fa 8))
  F_merge_names : FnP K "merge_names" s_merge_names (fa 9) (fd 9)
  g_merge_names : mg "merge_names" = some (.ref (fa 9))
  F_check_new_line : FnP K "check_new_line" s_check_new_line (fa 10) (fd 10)
  g_check_new_line : mg "check_new_line" = some (.ref (fa 10))
  F_line_tuples : FnP K "line_tuples" s_line_tuples (fa 11) (fd 11)
  g_line_tuples : mg "line_tuples" = some (.ref (fa 11))
  F_lines_by_house_webs : FnP K "lines_by_house" s_lines_by_house_webs (fa 12) (fd 12)
  g_lines_by_house_webs : mg "lines_by_house_webs" = some (.ref (fa 12))
  F_checked_web : FnP K "checked_web" s_checked_web (fa 13) (fd 13)
  g_checked_web : mg "checked_web" = some (.ref (fa 13))
  F_Web_init : FunD K "__init__" "Web.__init__" (defArgs s_Web_init) (defBody s_Web_init) (defScope s_Web_init) [.ref (He.dflAt ("Web", some "__init__") 0 K), .ref (He.dflAt ("Web", some "__init__") 1 K)] [] (fa 14) (fd 14)
  et_Web_init_0 : ∀ F, Rep K F (.ref (He.dflAt ("Web", some "__init__") 0 K)) (.tup [])
  et_Web_init_1 : ∀ F, Rep K F (.ref (He.dflAt ("Web", some "__init__") 1 K)) (.tup [])
  mk_Web : Mk K (He.ga K "Web") (fa 14)
  F_Web_houses : FunD K "houses" "Web.houses" (defArgs s_Web_houses) (defBody s_Web_houses) (defScope s_Web_houses) [] [] (fa 15) (fd 15)
  pr_Web_houses : PropOf K (He.ga K "Web") "houses" (He.ma K (He.ga K "Web") "houses") (fa 15)
  F_Web_lines : FunD K "lines" "Web.lines" (defArgs s_Web_lines) (defBody s_Web_lines) (defScope s_Web_lines) [] [] (fa 16) (fd 16)
  pr_Web_lines : PropOf K (He.ga K "Web") "lines" (He.ma K (He.ga K "Web") "lines") (fa 16)
  F_Web_with_line : FunD K "with_line" "Web.with_line" (defArgs s_Web_with_line) (defBody s_Web_with_line) (defScope s_Web_with_line) [] [] (fa 17) (fd 17)
  me_Web_with_line : Meth K (He.ga K "Web") "with_line" (fa 17)
  F_Web_without_line : FunD K "without_line" "Web.without_line" (defArgs s_Web_without_line) (defBody s_Web_without_line) (defScope s_Web_without_line) [] [] (fa 18) (fd 18)
  me_Web_without_line : Meth K (He.ga K "Web") "without_line" (fa 18)
  F_least_joins : FnP K "least_joins" s_least_joins (fa 19) (fd 19)
  g_least_joins : mg "least_joins" = some (.ref (fa 19))
  F_is_joins : FnP K "is_joins" s_is_joins (fa 20) (fd 20)
  g_is_joins : mg "is_joins" = some (.ref (fa 20))
  F_l_store : FnP K "_law_store" s_l_store (fa 21) (fd 21)
  g_l_store : mg "_law_store" = some (.ref (fa 21))
  F_l_take : FnP K "_law_take" s_l_take (fa 22) (fd 22)
  g_l_take : mg "_law_take" = some (.ref (fa 22))
  F_l_parts : FnP K "_law_parts" s_l_parts (fa 23) (fd 23)
  g_l_parts : mg "_law_parts" = some (.ref (fa 23))
  F_l_without : FnP K "_law_without" s_l_without (fa 24) (fd 24)
  g_l_without : mg "_law_without" = some (.ref (fa 24))
  F_l_is_joins : FnP K "_law_is_joins" s_l_is_joins (fa 25) (fd 25)
  g_l_is_joins : mg "_law_is_joins" = some (.ref (fa 25))
  F_l_mixed : FnP K "_law_mixed" s_l_mixed (fa 26) (fd 26)
  g_l_mixed : mg "_law_mixed" = some (.ref (fa 26))
  F_l_words : FnP K "_law_words" s_l_words (fa 27) (fd 27)
  g_l_words : mg "_law_words" = some (.ref (fa 27))
  F_l_ends : FnP K "_law_ends" s_l_ends (fa 28) (fd 28)
  g_l_ends : mg "_law_ends" = some (.ref (fa 28))
  F_l_drawn_web : FnP K "_law_drawn_web" s_l_drawn_web (fa 29) (fd 29)
  g_l_drawn_web : mg "_law_drawn_web" = some (.ref (fa 29))
  F_l_plain : FnP K "_law_plain" s_l_plain (fa 30) (fd 30)
  g_l_plain : mg "_law_plain" = some (.ref (fa 30))
  F_l_passed : FnP K "_law_passed" s_l_passed (fa 31) (fd 31)
  g_l_passed : mg "_law_passed" = some (.ref (fa 31))
  F_l_unused : FnP K "_law_unused" s_l_unused (fa 32) (fd 32)
  g_l_unused : mg "_law_unused" = some (.ref (fa 32))
  F_l_any_joins : FnP K "_law_any_joins" s_l_any_joins (fa 33) (fd 33)
  g_l_any_joins : mg "_law_any_joins" = some (.ref (fa 33))
  F_l_bent_joins : FnP K "_law_bent_joins" s_l_bent_joins (fa 34) (fd 34)
  g_l_bent_joins : mg "_law_bent_joins" = some (.ref (fa 34))
  F_l_judged : FnP K "_law_judged" s_l_judged (fa 35) (fd 35)
  g_l_judged : mg "_law_judged" = some (.ref (fa 35))
  F_l_joined_up : FnP K "_law_joined_up" s_l_joined_up (fa 36) (fd 36)
  g_l_joined_up : mg "_law_joined_up" = some (.ref (fa 36))
  F_l_joins_hold : FnP K "_law_joins_hold" s_l_joins_hold (fa 37) (fd 37)
  g_l_joins_hold : mg "_law_joins_hold" = some (.ref (fa 37))
  F_law : FnP K "law" s_law (fa 38) (fd 38)
  g_law : mg "law" = some (.ref (fa 38))
  c_Web : Cls K (He.ga K "Web")
  g_Web : mg "Web" = some (.ref (He.ga K "Web"))
  n_Web_own_houses : NoAttr K (He.ga K "Web") "own_houses"
  n_Web_own_pairs : NoAttr K (He.ga K "Web") "own_pairs"
  n_Web_own_lines : NoAttr K (He.ga K "Web") "own_lines"
  n_Web_own_near : NoAttr K (He.ga K "Web") "own_near"
  g_BadName : mg "BadName" = some (.ref (He.ga K "BadName"))
  g_NoHouse : mg "NoHouse" = some (.ref (He.ga K "NoHouse"))
  g_NoLine : mg "NoLine" = some (.ref (He.ga K "NoLine"))
  g_SelfLine : mg "SelfLine" = some (.ref (He.ga K "SelfLine"))
  g_Taken : mg "Taken" = some (.ref (He.ga K "Taken"))
  g_TooMany : mg "TooMany" = some (.ref (He.ga K "TooMany"))
  top_ : (P.main.scope.names.lookup ("super" : Str)).isSome = false
  e_base : ∃ fdb, FunD K "__init__" "KeptError.__init__" (defArgs s_base) (defBody s_base) (defScope s_base) [] [] (supAt K "KeptError") fdb
  S_BadName : ∃ fdx, SupD P K (supNF K w_BadName) fdx (supAt K "BadName") (He.ga K "BadName") (supAt K "KeptError")
  o_BadName : oexB K (He.ga K "BadName") = true
  n_BadName : initB K "BadName" = true
  S_Taken : ∃ fdx, SupD P K (supNF K w_Taken) fdx (supAt K "Taken") (He.ga K "Taken") (supAt K "KeptError")
  o_Taken : oexB K (He.ga K "Taken") = true
  n_Taken : initB K "Taken" = true
  S_TooMany : ∃ fdx, SupD P K (supNF K w_TooMany) fdx (supAt K "TooMany") (He.ga K "TooMany") (supAt K "KeptError")
  o_TooMany : oexB K (He.ga K "TooMany") = true
  n_TooMany : initB K "TooMany" = true
  S_NoHouse : ∃ fdx, SupD P K (supNF K w_NoHouse) fdx (supAt K "NoHouse") (He.ga K "NoHouse") (supAt K "KeptError")
  o_NoHouse : oexB K (He.ga K "NoHouse") = true
  n_NoHouse : initB K "NoHouse" = true
  S_SelfLine : ∃ fdx, SupD P K (supNF K w_SelfLine) fdx (supAt K "SelfLine") (He.ga K "SelfLine") (supAt K "KeptError")
  o_SelfLine : oexB K (He.ga K "SelfLine") = true
  n_SelfLine : initB K "SelfLine" = true
  S_NoLine : ∃ fdx, SupD P K (supNF K w_NoLine) fdx (supAt K "NoLine") (He.ga K "NoLine") (supAt K "KeptError")
  o_NoLine : oexB K (He.ga K "NoLine") = true
  n_NoLine : initB K "NoLine" = true
  x_tab : xtB K xtab = true
  x_cls : xcB K xtab xcls = true
  b_all : mg "all" = none
  b_bool : mg "bool" = none
  b_dict : mg "dict" = none
  b_enumerate : mg "enumerate" = none
  b_int : mg "int" = none
  b_isinstance : mg "isinstance" = none
  b_len : mg "len" = none
  b_list : mg "list" = none
  b_max : mg "max" = none
  b_min : mg "min" = none
  b_range : mg "range" = none
  b_sorted : mg "sorted" = none
  b_str : mg "str" = none
  b_super : mg "super" = none
  b_tuple : mg "tuple" = none
  m_LONGEST_NAME : ∃ (v : V) (u : Value), mg "LONGEST_NAME" = some u ∧ RelV v u ∧ ∀ F, Rep K F v c_LONGEST_NAME
  m_MOST_HOUSES : ∃ (v : V) (u : Value), mg "MOST_HOUSES" = some u ∧ RelV v u ∧ ∀ F, Rep K F v c_MOST_HOUSES
  m_MOST_LINES : ∃ (v : V) (u : Value), mg "MOST_LINES" = some u ∧ RelV v u ∧ ∀ F, Rep K F v c_MOST_LINES

/-! ### the head (printed by gen.py) -/
def hdFn : List He.DefD := [⟨("is_letter", none), "is_letter", "is_letter", defArgs s_is_letter, defBody s_is_letter, defScope s_is_letter, [], []⟩, ⟨("is_digit", none), "is_digit", "is_digit", defArgs s_is_digit, defBody s_is_digit, defScope s_is_digit, [], []⟩, ⟨("is_name", none), "is_name", "is_name", defArgs s_is_name, defBody s_is_name, defScope s_is_name, [], []⟩, ⟨("check_name", none), "check_name", "check_name", defArgs s_check_name, defBody s_check_name, defScope s_check_name, [], []⟩, ⟨("check_houses", none), "check_houses", "check_houses", defArgs s_check_houses, defBody s_check_houses, defScope s_check_houses, [], []⟩, ⟨("ordered", none), "ordered", "ordered", defArgs s_ordered, defBody s_ordered, defScope s_ordered, [], []⟩, ⟨("lines_by_house_plain", none), "lines_by_house", "lines_by_house", defArgs s_lines_by_house_plain, defBody s_lines_by_house_plain, defScope s_lines_by_house_plain, [], []⟩, ⟨("step_counts", none), "step_counts", "step_counts", defArgs s_step_counts, defBody s_step_counts, defScope s_step_counts, [], []⟩, ⟨("find_parts", none), "find_parts", "find_parts", defArgs s_find_parts, defBody s_find_parts, defScope s_find_parts, [], []⟩, ⟨("merge_names", none), "merge_names", "merge_names", defArgs s_merge_names, defBody s_merge_names, defScope s_merge_names, [], []⟩, ⟨("check_new_line", none), "check_new_line", "check_new_line", defArgs s_check_new_line, defBody s_check_new_line, defScope s_check_new_line, [], []⟩, ⟨("line_tuples", none), "line_tuples", "line_tuples", defArgs s_line_tuples, defBody s_line_tuples, defScope s_line_tuples, [], []⟩, ⟨("lines_by_house_webs", none), "lines_by_house", "lines_by_house", defArgs s_lines_by_house_webs, defBody s_lines_by_house_webs, defScope s_lines_by_house_webs, [], []⟩, ⟨("checked_web", none), "checked_web", "checked_web", defArgs s_checked_web, defBody s_checked_web, defScope s_checked_web, [], []⟩, ⟨("Web", some "__init__"), "__init__", "Web.__init__", defArgs s_Web_init, defBody s_Web_init, defScope s_Web_init, [.adr (He.dflAt ("Web", some "__init__") 0), .adr (He.dflAt ("Web", some "__init__") 1)], []⟩, ⟨("Web", some "with_line"), "with_line", "Web.with_line", defArgs s_Web_with_line, defBody s_Web_with_line, defScope s_Web_with_line, [], []⟩, ⟨("Web", some "without_line"), "without_line", "Web.without_line", defArgs s_Web_without_line, defBody s_Web_without_line, defScope s_Web_without_line, [], []⟩, ⟨("least_joins", none), "least_joins", "least_joins", defArgs s_least_joins, defBody s_least_joins, defScope s_least_joins, [], []⟩, ⟨("is_joins", none), "is_joins", "is_joins", defArgs s_is_joins, defBody s_is_joins, defScope s_is_joins, [], []⟩, ⟨("_law_store", none), "_law_store", "_law_store", defArgs s_l_store, defBody s_l_store, defScope s_l_store, [], []⟩, ⟨("_law_take", none), "_law_take", "_law_take", defArgs s_l_take, defBody s_l_take, defScope s_l_take, [], []⟩, ⟨("_law_parts", none), "_law_parts", "_law_parts", defArgs s_l_parts, defBody s_l_parts, defScope s_l_parts, [], []⟩, ⟨("_law_without", none), "_law_without", "_law_without", defArgs s_l_without, defBody s_l_without, defScope s_l_without, [], []⟩, ⟨("_law_is_joins", none), "_law_is_joins", "_law_is_joins", defArgs s_l_is_joins, defBody s_l_is_joins, defScope s_l_is_joins, [], []⟩, ⟨("_law_mixed", none), "_law_mixed", "_law_mixed", defArgs s_l_mixed, defBody s_l_mixed, defScope s_l_mixed, [], []⟩, ⟨("_law_words", none), "_law_words", "_law_words", defArgs s_l_words, defBody s_l_words, defScope s_l_words, [], []⟩, ⟨("_law_ends", none), "_law_ends", "_law_ends", defArgs s_l_ends, defBody s_l_ends, defScope s_l_ends, [], []⟩, ⟨("_law_drawn_web", none), "_law_drawn_web", "_law_drawn_web", defArgs s_l_drawn_web, defBody s_l_drawn_web, defScope s_l_drawn_web, [], []⟩, ⟨("_law_plain", none), "_law_plain", "_law_plain", defArgs s_l_plain, defBody s_l_plain, defScope s_l_plain, [], []⟩, ⟨("_law_passed", none), "_law_passed", "_law_passed", defArgs s_l_passed, defBody s_l_passed, defScope s_l_passed, [], []⟩, ⟨("_law_unused", none), "_law_unused", "_law_unused", defArgs s_l_unused, defBody s_l_unused, defScope s_l_unused, [], []⟩, ⟨("_law_any_joins", none), "_law_any_joins", "_law_any_joins", defArgs s_l_any_joins, defBody s_l_any_joins, defScope s_l_any_joins, [], []⟩, ⟨("_law_bent_joins", none), "_law_bent_joins", "_law_bent_joins", defArgs s_l_bent_joins, defBody s_l_bent_joins, defScope s_l_bent_joins, [], []⟩, ⟨("_law_judged", none), "_law_judged", "_law_judged", defArgs s_l_judged, defBody s_l_judged, defScope s_l_judged, [], []⟩, ⟨("_law_joined_up", none), "_law_joined_up", "_law_joined_up", defArgs s_l_joined_up, defBody s_l_joined_up, defScope s_l_joined_up, [], []⟩, ⟨("_law_joins_hold", none), "_law_joins_hold", "_law_joins_hold", defArgs s_l_joins_hold, defBody s_l_joins_hold, defScope s_l_joins_hold, [], []⟩, ⟨("law", none), "law", "law", defArgs s_law, defBody s_law, defScope s_law, [], []⟩, ⟨("KeptError", some "__init__"), "__init__", "KeptError.__init__", defArgs s_base, defBody s_base, defScope s_base, [], []⟩]
def hdFa : List He.Fa := [.glo "is_letter", .glo "is_digit", .glo "is_name", .glo "check_name", .glo "check_houses", .glo "ordered", .glo "lines_by_house_plain", .glo "step_counts", .glo "find_parts", .glo "merge_names", .glo "check_new_line", .glo "line_tuples", .glo "lines_by_house_webs", .glo "checked_web", .glo "least_joins", .glo "is_joins", .glo "_law_store", .glo "_law_take", .glo "_law_parts", .glo "_law_without", .glo "_law_is_joins", .glo "_law_mixed", .glo "_law_words", .glo "_law_ends", .glo "_law_drawn_web", .glo "_law_plain", .glo "_law_passed", .glo "_law_unused", .glo "_law_any_joins", .glo "_law_bent_joins", .glo "_law_judged", .glo "_law_joined_up", .glo "_law_joins_hold", .glo "law", .free "all", .free "bool", .free "dict", .free "enumerate", .free "int", .free "isinstance", .free "len", .free "list", .free "max", .free "min", .free "range", .free "sorted", .free "str", .free "super", .free "tuple", .int "LONGEST_NAME" 12, .int "MOST_HOUSES" 32, .int "MOST_LINES" 96, .glo "BadName", .glo "NoHouse", .glo "NoLine", .glo "SelfLine", .glo "Taken", .glo "TooMany", .cls "Web", .glo "Web", .mkr "Web", .noat "Web" "own_houses", .noat "Web" "own_pairs", .noat "Web" "own_lines", .noat "Web" "own_near", .meth "Web" "with_line", .meth "Web" "without_line"]
abbrev p_Web_houses : PropW := ⟨"Web", "houses", "Web.houses", defArgs s_Web_houses, defBody s_Web_houses, defScope s_Web_houses⟩
abbrev p_Web_lines : PropW := ⟨"Web", "lines", "Web.lines", defArgs s_Web_lines, defBody s_Web_lines, defScope s_Web_lines⟩
def hdEx (K : PySem.W.Frag) : Bool := (oexB K (He.ga K "BadName") && (initB K "BadName" && (supB K PySem.Challenge.rw_keptjoined_k58_fewest_joins.prog.main.file "KeptError" w_BadName && (oexB K (He.ga K "Taken") && (initB K "Taken" && (supB K PySem.Challenge.rw_keptjoined_k58_fewest_joins.prog.main.file "KeptError" w_Taken && (oexB K (He.ga K "TooMany") && (initB K "TooMany" && (supB K PySem.Challenge.rw_keptjoined_k58_fewest_joins.prog.main.file "KeptError" w_TooMany && (oexB K (He.ga K "NoHouse") && (initB K "NoHouse" && (supB K PySem.Challenge.rw_keptjoined_k58_fewest_joins.prog.main.file "KeptError" w_NoHouse && (oexB K (He.ga K "SelfLine") && (initB K "SelfLine" && (supB K PySem.Challenge.rw_keptjoined_k58_fewest_joins.prog.main.file "KeptError" w_SelfLine && (oexB K (He.ga K "NoLine") && (initB K "NoLine" && (supB K PySem.Challenge.rw_keptjoined_k58_fewest_joins.prog.main.file "KeptError" w_NoLine && (propB K p_Web_houses && (propB K p_Web_lines && (etB K (He.dflAt ("Web", some "__init__") 0 K) && (etB K (He.dflAt ("Web", some "__init__") 1 K) && (xtB K xtab && (xcB K xtab xcls && true))))))))))))))))))))))))
abbrev hdR : PySem.W.OpenRow := PySem.W.OpenLaw.row PySem.Challenge.rw_keptjoined_k58_fewest_joins
def hdSu : List SupW := [w_BadName, w_Taken, w_TooMany, w_NoHouse, w_SelfLine, w_NoLine]
def hdPr : List PropW := [p_Web_houses, p_Web_lines]
abbrev hdK : PySem.W.Hook := hookM 5 hdFa hdFn hdEx hdSu hdPr
def hdO (s : PySem.W.SharedT) : AlP := obsM 5 hdFa hdFn hdEx hdSu hdPr (HandSHeadRun.getT s)
theorem hdO_eq (s : PySem.W.SharedT) : hdO s = hdK.obs s.abs := obsM_eq (HandSHeadRun.getT_eq s)
abbrev hdL : List Str := "_wall" :: "KeptError" :: "BadName" :: "NoHouse" :: "NoLine" :: "SelfLine" :: "Taken" :: "TooMany" :: "MOST_HOUSES" :: "MOST_LINES" :: "LONGEST_NAME" :: "is_letter" :: "is_digit" :: "is_name" :: "check_name" :: "check_houses" :: "ordered" :: "lines_by_house" :: "lines_by_house_plain" :: "step_counts" :: "find_parts" :: "merge_names" :: "check_new_line" :: "line_tuples" :: "lines_by_house_webs" :: "checked_web" :: "Web" :: "least_joins" :: "is_joins" :: "_law_store" :: "_law_take" :: "_law_parts" :: "_law_without" :: "_law_is_joins" :: "_law_mixed" :: "_law_words" :: "_law_ends" :: "_law_drawn_web" :: "_law_plain" :: "_law_passed" :: "_law_unused" :: "_law_any_joins" :: "_law_bent_joins" :: "_law_judged" :: "_law_joined_up" :: "_law_joins_hold" :: []
set_option maxHeartbeats 4000000 in
theorem hdRun (w : World) : HandSHeadRun.RunEq hdR (PySem.W.view hdR.prog [54]) hdK hdO 40000 hdL w := by
  intro os
  kernel_rfl
theorem hdTxt {K : PySem.W.Frag} {h : Heap} {mg : Str → Option Value} (X : K.In h) (G : h.Ns mainGlobals mg) (c : He.SaysD hdFa hdFn K) (ce : hdEx K = true) (cs : (hdSu.map fun d => supV K d.x) = hdSu.map SupW.val) (cp : (hdPr.map fun d => propV K d.C d.f) = hdPr.map PropW.val) : ∃ fdv : Nat → FuncData, Txt PySem.Challenge.rw_keptjoined_k58_fewest_joins.prog K mg (fun i => ([He.ga K "is_letter", He.ga K "is_digit", He.ga K "is_name", He.ga K "check_name", He.ga K "check_houses", He.ga K "ordered", He.ga K "lines_by_house_plain", He.ga K "step_counts", He.ga K "find_parts", He.ga K "merge_names", He.ga K "check_new_line", He.ga K "line_tuples", He.ga K "lines_by_house_webs", He.ga K "checked_web", He.ma K (He.ga K "Web") "__init__", propG K "Web" "houses", propG K "Web" "lines", He.ma K (He.ga K "Web") "with_line", He.ma K (He.ga K "Web") "without_line", He.ga K "least_joins", He.ga K "is_joins", He.ga K "_law_store", He.ga K "_law_take", He.ga K "_law_parts", He.ga K "_law_without", He.ga K "_law_is_joins", He.ga K "_law_mixed", He.ga K "_law_words", He.ga K "_law_ends", He.ga K "_law_drawn_web", He.ga K "_law_plain", He.ga K "_law_passed", He.ga K "_law_unused", He.ga K "_law_any_joins", He.ga K "_law_bent_joins", He.ga K "_law_judged", He.ga K "_law_joined_up", He.ga K "_law_joins_hold", He.ga K "law"].getD i 0)) fdv := by
  obtain ⟨fdbase, FBase⟩ := c.def_ 37 (d := ⟨("KeptError", some "__init__"), "__init__", "KeptError.__init__", defArgs s_base, defBody s_base, defScope s_base, [], []⟩) rfl
  obtain ⟨fd0, F0⟩ := c.def_ 0 (d := ⟨("is_letter", none), "is_letter", "is_letter", defArgs s_is_letter, defBody s_is_letter, defScope s_is_letter, [], []⟩) rfl
  obtain ⟨fd1, F1⟩ := c.def_ 1 (d := ⟨("is_digit", none), "is_digit", "is_digit", defArgs s_is_digit, defBody s_is_digit, defScope s_is_digit, [], []⟩) rfl
  obtain ⟨fd2, F2⟩ := c.def_ 2 (d := ⟨("is_name", none), "is_name", "is_name", defArgs s_is_name, defBody s_is_name, defScope s_is_name, [], []⟩) rfl
  obtain ⟨fd3, F3⟩ := c.def_ 3 (d := ⟨("check_name", none), "check_name", "check_name", defArgs s_check_name, defBody s_check_name, defScope s_check_name, [], []⟩) rfl
  obtain ⟨fd4, F4⟩ := c.def_ 4 (d := ⟨("check_houses", none), "check_houses", "check_houses", defArgs s_check_houses, defBody s_check_houses, defScope s_check_houses, [], []⟩) rfl
  obtain ⟨fd5, F5⟩ := c.def_ 5 (d := ⟨("ordered", none), "ordered", "ordered", defArgs s_ordered, defBody s_ordered, defScope s_ordered, [], []⟩) rfl
  obtain ⟨fd6, F6⟩ := c.def_ 6 (d := ⟨("lines_by_house_plain", none), "lines_by_house", "lines_by_house", defArgs s_lines_by_house_plain, defBody s_lines_by_house_plain, defScope s_lines_by_house_plain, [], []⟩) rfl
  obtain ⟨fd7, F7⟩ := c.def_ 7 (d := ⟨("step_counts", none), "step_counts", "step_counts", defArgs s_step_counts, defBody s_step_counts, defScope s_step_counts, [], []⟩) rfl
  obtain ⟨fd8, F8⟩ := c.def_ 8 (d := ⟨("find_parts", none), "find_parts", "find_parts", defArgs s_find_parts, defBody s_find_parts, defScope s_find_parts, [], []⟩) rfl
  obtain ⟨fd9, F9⟩ := c.def_ 9 (d := ⟨("merge_names", none), "merge_names", "merge_names", defArgs s_merge_names, defBody s_merge_names, defScope s_merge_names, [], []⟩) rfl
  obtain ⟨fd10, F10⟩ := c.def_ 10 (d := ⟨("check_new_line", none), "check_new_line", "check_new_line", defArgs s_check_new_line, defBody s_check_new_line, defScope s_check_new_line, [], []⟩) rfl
  obtain ⟨fd11, F11⟩ := c.def_ 11 (d := ⟨("line_tuples", none), "line_tuples", "line_tuples", defArgs s_line_tuples, defBody s_line_tuples, defScope s_line_tuples, [], []⟩) rfl
  obtain ⟨fd12, F12⟩ := c.def_ 12 (d := ⟨("lines_by_house_webs", none), "lines_by_house", "lines_by_house", defArgs s_lines_by_house_webs, defBody s_lines_by_house_webs, defScope s_lines_by_house_webs, [], []⟩) rfl
  obtain ⟨fd13, F13⟩ := c.def_ 13 (d := ⟨("checked_web", none), "checked_web", "checked_web", defArgs s_checked_web, defBody s_checked_web, defScope s_checked_web, [], []⟩) rfl
  obtain ⟨fd14, F14⟩ := c.def_ 14 (d := ⟨("Web", some "__init__"), "__init__", "Web.__init__", defArgs s_Web_init, defBody s_Web_init, defScope s_Web_init, [.adr (He.dflAt ("Web", some "__init__") 0), .adr (He.dflAt ("Web", some "__init__") 1)], []⟩) rfl
  obtain ⟨fd17, F17⟩ := c.def_ 15 (d := ⟨("Web", some "with_line"), "with_line", "Web.with_line", defArgs s_Web_with_line, defBody s_Web_with_line, defScope s_Web_with_line, [], []⟩) rfl
  obtain ⟨fd18, F18⟩ := c.def_ 16 (d := ⟨("Web", some "without_line"), "without_line", "Web.without_line", defArgs s_Web_without_line, defBody s_Web_without_line, defScope s_Web_without_line, [], []⟩) rfl
  obtain ⟨fd19, F19⟩ := c.def_ 17 (d := ⟨("least_joins", none), "least_joins", "least_joins", defArgs s_least_joins, defBody s_least_joins, defScope s_least_joins, [], []⟩) rfl
  obtain ⟨fd20, F20⟩ := c.def_ 18 (d := ⟨("is_joins", none), "is_joins", "is_joins", defArgs s_is_joins, defBody s_is_joins, defScope s_is_joins, [], []⟩) rfl
  obtain ⟨fd21, F21⟩ := c.def_ 19 (d := ⟨("_law_store", none), "_law_store", "_law_store", defArgs s_l_store, defBody s_l_store, defScope s_l_store, [], []⟩) rfl
  obtain ⟨fd22, F22⟩ := c.def_ 20 (d := ⟨("_law_take", none), "_law_take", "_law_take", defArgs s_l_take, defBody s_l_take, defScope s_l_take, [], []⟩) rfl
  obtain ⟨fd23, F23⟩ := c.def_ 21 (d := ⟨("_law_parts", none), "_law_parts", "_law_parts", defArgs s_l_parts, defBody s_l_parts, defScope s_l_parts, [], []⟩) rfl
  obtain ⟨fd24, F24⟩ := c.def_ 22 (d := ⟨("_law_without", none), "_law_without", "_law_without", defArgs s_l_without, defBody s_l_without, defScope s_l_without, [], []⟩) rfl
  obtain ⟨fd25, F25⟩ := c.def_ 23 (d := ⟨("_law_is_joins", none), "_law_is_joins", "_law_is_joins", defArgs s_l_is_joins, defBody s_l_is_joins, defScope s_l_is_joins, [], []⟩) rfl
  obtain ⟨fd26, F26⟩ := c.def_ 24 (d := ⟨("_law_mixed", none), "_law_mixed", "_law_mixed", defArgs s_l_mixed, defBody s_l_mixed, defScope s_l_mixed, [], []⟩) rfl
  obtain ⟨fd27, F27⟩ := c.def_ 25 (d := ⟨("_law_words", none), "_law_words", "_law_words", defArgs s_l_words, defBody s_l_words, defScope s_l_words, [], []⟩) rfl
  obtain ⟨fd28, F28⟩ := c.def_ 26 (d := ⟨("_law_ends", none), "_law_ends", "_law_ends", defArgs s_l_ends, defBody s_l_ends, defScope s_l_ends, [], []⟩) rfl
  obtain ⟨fd29, F29⟩ := c.def_ 27 (d := ⟨("_law_drawn_web", none), "_law_drawn_web", "_law_drawn_web", defArgs s_l_drawn_web, defBody s_l_drawn_web, defScope s_l_drawn_web, [], []⟩) rfl
  obtain ⟨fd30, F30⟩ := c.def_ 28 (d := ⟨("_law_plain", none), "_law_plain", "_law_plain", defArgs s_l_plain, defBody s_l_plain, defScope s_l_plain, [], []⟩) rfl
  obtain ⟨fd31, F31⟩ := c.def_ 29 (d := ⟨("_law_passed", none), "_law_passed", "_law_passed", defArgs s_l_passed, defBody s_l_passed, defScope s_l_passed, [], []⟩) rfl
  obtain ⟨fd32, F32⟩ := c.def_ 30 (d := ⟨("_law_unused", none), "_law_unused", "_law_unused", defArgs s_l_unused, defBody s_l_unused, defScope s_l_unused, [], []⟩) rfl
  obtain ⟨fd33, F33⟩ := c.def_ 31 (d := ⟨("_law_any_joins", none), "_law_any_joins", "_law_any_joins", defArgs s_l_any_joins, defBody s_l_any_joins, defScope s_l_any_joins, [], []⟩) rfl
  obtain ⟨fd34, F34⟩ := c.def_ 32 (d := ⟨("_law_bent_joins", none), "_law_bent_joins", "_law_bent_joins", defArgs s_l_bent_joins, defBody s_l_bent_joins, defScope s_l_bent_joins, [], []⟩) rfl
  obtain ⟨fd35, F35⟩ := c.def_ 33 (d := ⟨("_law_judged", none), "_law_judged", "_law_judged", defArgs s_l_judged, defBody s_l_judged, defScope s_l_judged, [], []⟩) rfl
  obtain ⟨fd36, F36⟩ := c.def_ 34 (d := ⟨("_law_joined_up", none), "_law_joined_up", "_law_joined_up", defArgs s_l_joined_up, defBody s_l_joined_up, defScope s_l_joined_up, [], []⟩) rfl
  obtain ⟨fd37, F37⟩ := c.def_ 35 (d := ⟨("_law_joins_hold", none), "_law_joins_hold", "_law_joins_hold", defArgs s_l_joins_hold, defBody s_l_joins_hold, defScope s_l_joins_hold, [], []⟩) rfl
  obtain ⟨fd38, F38⟩ := c.def_ 36 (d := ⟨("law", none), "law", "law", defArgs s_law, defBody s_law, defScope s_law, [], []⟩) rfl
  obtain ⟨e0, r0⟩ := He.ba ce
  obtain ⟨e1, r1⟩ := He.ba r0
  obtain ⟨e2, r2⟩ := He.ba r1
  obtain ⟨e3, r3⟩ := He.ba r2
  obtain ⟨e4, r4⟩ := He.ba r3
  obtain ⟨e5, r5⟩ := He.ba r4
  obtain ⟨e6, r6⟩ := He.ba r5
  obtain ⟨e7, r7⟩ := He.ba r6
  obtain ⟨e8, r8⟩ := He.ba r7
  obtain ⟨e9, r9⟩ := He.ba r8
  obtain ⟨e10, r10⟩ := He.ba r9
  obtain ⟨e11, r11⟩ := He.ba r10
  obtain ⟨e12, r12⟩ := He.ba r11
  obtain ⟨e13, r13⟩ := He.ba r12
  obtain ⟨e14, r14⟩ := He.ba r13
  obtain ⟨e15, r15⟩ := He.ba r14
  obtain ⟨e16, r16⟩ := He.ba r15
  obtain ⟨e17, r17⟩ := He.ba r16
  obtain ⟨e18, r18⟩ := He.ba r17
  obtain ⟨e19, r19⟩ := He.ba r18
  obtain ⟨e20, r20⟩ := He.ba r19
  obtain ⟨e21, r21⟩ := He.ba r20
  obtain ⟨e22, r22⟩ := He.ba r21
  obtain ⟨e23, r23⟩ := He.ba r22
  obtain ⟨PO15, fd15, F15⟩ := propB_ok (d := p_Web_houses) (prop_at cp 0 (d := p_Web_houses) rfl) e18
  obtain ⟨PO16, fd16, F16⟩ := propB_ok (d := p_Web_lines) (prop_at cp 1 (d := p_Web_lines) rfl) e19
  exact ⟨fun i => [fd0, fd1, fd2, fd3, fd4, fd5, fd6, fd7, fd8, fd9, fd10, fd11, fd12, fd13, fd14, fd15, fd16, fd17, fd18, fd19, fd20, fd21, fd22, fd23, fd24, fd25, fd26, fd27, fd28, fd29, fd30, fd31, fd32, fd33, fd34, fd35, fd36, fd37, fd38].getD i fd0, {
    F_is_letter := F0, g_is_letter := He.glo_ok X G (c.fact 0 (f := .glo "is_letter") rfl),
    F_is_digit := F1, g_is_digit := He.glo_ok X G (c.fact 1 (f := .glo "is_digit") rfl),
    F_is_name := F2, g_is_name := He.glo_ok X G (c.fact 2 (f := .glo "is_name") rfl),
    F_check_name := F3, g_check_name := He.glo_ok X G (c.fact 3 (f := .glo "check_name") rfl),
    F_check_houses := F4, g_check_houses := He.glo_ok X G (c.fact 4 (f := .glo "check_houses") rfl),
    F_ordered := F5, g_ordered := He.glo_ok X G (c.fact 5 (f := .glo "ordered") rfl),
    F_lines_by_house_plain := F6, g_lines_by_house_plain := He.glo_ok X G (c.fact 6 (f := .glo "lines_by_house_plain") rfl),
    F_step_counts := F7, g_step_counts := He.glo_ok X G (c.fact 7 (f := .glo "step_counts") rfl),
    F_find_parts := F8, g_find_parts := He.glo_ok X G (c.fact 8 (f := .glo "find_parts") rfl),
    F_merge_names := F9, g_merge_names := He.glo_ok X G (c.fact 9 (f := .glo "merge_names") rfl),
    F_check_new_line := F10, g_check_new_line := He.glo_ok X G (c.fact 10 (f := .glo "check_new_line") rfl),
    F_line_tuples := F11, g_line_tuples := He.glo_ok X G (c.fact 11 (f := .glo "line_tuples") rfl),
    F_lines_by_house_webs := F12, g_lines_by_house_webs := He.glo_ok X G (c.fact 12 (f := .glo "lines_by_house_webs") rfl),
    F_checked_web := F13, g_checked_web := He.glo_ok X G (c.fact 13 (f := .glo "checked_web") rfl),
    F_Web_init := F14,
    et_Web_init_0 := etB_ok e20,
    et_Web_init_1 := etB_ok e21,
    mk_Web := He.mkr_ok (c.fact 60 (f := .mkr "Web") rfl),
    F_Web_houses := F15,
    pr_Web_houses := PO15,
    F_Web_lines := F16,
    pr_Web_lines := PO16,
    F_Web_with_line := F17,
    me_Web_with_line := He.meth_ok (c.fact 65 (f := .meth "Web" "with_line") rfl),
    F_Web_without_line := F18,
    me_Web_without_line := He.meth_ok (c.fact 66 (f := .meth "Web" "without_line") rfl),
    F_least_joins := F19, g_least_joins := He.glo_ok X G (c.fact 14 (f := .glo "least_joins") rfl),
    F_is_joins := F20, g_is_joins := He.glo_ok X G (c.fact 15 (f := .glo "is_joins") rfl),
    F_l_store := F21, g_l_store := He.glo_ok X G (c.fact 16 (f := .glo "_law_store") rfl),
    F_l_take := F22, g_l_take := He.glo_ok X G (c.fact 17 (f := .glo "_law_take") rfl),
    F_l_parts := F23, g_l_parts := He.glo_ok X G (c.fact 18 (f := .glo "_law_parts") rfl),
    F_l_without := F24, g_l_without := He.glo_ok X G (c.fact 19 (f := .glo "_law_without") rfl),
    F_l_is_joins := F25, g_l_is_joins := He.glo_ok X G (c.fact 20 (f := .glo "_law_is_joins") rfl),
    F_l_mixed := F26, g_l_mixed := He.glo_ok X G (c.fact 21 (f := .glo "_law_mixed") rfl),
    F_l_words := F27, g_l_words := He.glo_ok X G (c.fact 22 (f := .glo "_law_words") rfl),
    F_l_ends := F28, g_l_ends := He.glo_ok X G (c.fact 23 (f := .glo "_law_ends") rfl),
    F_l_drawn_web := F29, g_l_drawn_web := He.glo_ok X G (c.fact 24 (f := .glo "_law_drawn_web") rfl),
    F_l_plain := F30, g_l_plain := He.glo_ok X G (c.fact 25 (f := .glo "_law_plain") rfl),
    F_l_passed := F31, g_l_passed := He.glo_ok X G (c.fact 26 (f := .glo "_law_passed") rfl),
    F_l_unused := F32, g_l_unused := He.glo_ok X G (c.fact 27 (f := .glo "_law_unused") rfl),
    F_l_any_joins := F33, g_l_any_joins := He.glo_ok X G (c.fact 28 (f := .glo "_law_any_joins") rfl),
    F_l_bent_joins := F34, g_l_bent_joins := He.glo_ok X G (c.fact 29 (f := .glo "_law_bent_joins") rfl),
    F_l_judged := F35, g_l_judged := He.glo_ok X G (c.fact 30 (f := .glo "_law_judged") rfl),
    F_l_joined_up := F36, g_l_joined_up := He.glo_ok X G (c.fact 31 (f := .glo "_law_joined_up") rfl),
    F_l_joins_hold := F37, g_l_joins_hold := He.glo_ok X G (c.fact 32 (f := .glo "_law_joins_hold") rfl),
    F_law := F38, g_law := He.glo_ok X G (c.fact 33 (f := .glo "law") rfl),
    c_Web := He.cls_ok (c.fact 58 (f := .cls "Web") rfl), g_Web := He.glo_ok X G (c.fact 59 (f := .glo "Web") rfl),
    n_Web_own_houses := He.noat_ok (c.fact 61 (f := .noat "Web" "own_houses") rfl),
    n_Web_own_pairs := He.noat_ok (c.fact 62 (f := .noat "Web" "own_pairs") rfl),
    n_Web_own_lines := He.noat_ok (c.fact 63 (f := .noat "Web" "own_lines") rfl),
    n_Web_own_near := He.noat_ok (c.fact 64 (f := .noat "Web" "own_near") rfl),
    b_all := He.free_ok X G (c.fact 34 (f := .free "all") rfl),
    b_bool := He.free_ok X G (c.fact 35 (f := .free "bool") rfl),
    b_dict := He.free_ok X G (c.fact 36 (f := .free "dict") rfl),
    b_enumerate := He.free_ok X G (c.fact 37 (f := .free "enumerate") rfl),
    b_int := He.free_ok X G (c.fact 38 (f := .free "int") rfl),
    b_isinstance := He.free_ok X G (c.fact 39 (f := .free "isinstance") rfl),
    b_len := He.free_ok X G (c.fact 40 (f := .free "len") rfl),
    b_list := He.free_ok X G (c.fact 41 (f := .free "list") rfl),
    b_max := He.free_ok X G (c.fact 42 (f := .free "max") rfl),
    b_min := He.free_ok X G (c.fact 43 (f := .free "min") rfl),
    b_range := He.free_ok X G (c.fact 44 (f := .free "range") rfl),
    b_sorted := He.free_ok X G (c.fact 45 (f := .free "sorted") rfl),
    b_str := He.free_ok X G (c.fact 46 (f := .free "str") rfl),
    b_super := He.free_ok X G (c.fact 47 (f := .free "super") rfl),
    b_tuple := He.free_ok X G (c.fact 48 (f := .free "tuple") rfl),
    g_BadName := He.glo_ok X G (c.fact 52 (f := .glo "BadName") rfl),
    g_NoHouse := He.glo_ok X G (c.fact 53 (f := .glo "NoHouse") rfl),
    g_NoLine := He.glo_ok X G (c.fact 54 (f := .glo "NoLine") rfl),
    g_SelfLine := He.glo_ok X G (c.fact 55 (f := .glo "SelfLine") rfl),
    g_Taken := He.glo_ok X G (c.fact 56 (f := .glo "Taken") rfl),
    g_TooMany := He.glo_ok X G (c.fact 57 (f := .glo "TooMany") rfl),
    top_ := by kernel_rfl,
    e_base := ⟨fdbase, FBase⟩,
    o_BadName := e0, n_BadName := e1, S_BadName := supB_ok (d := w_BadName) (sup_at cs 0 (d := w_BadName) rfl) e2,
    o_Taken := e3, n_Taken := e4, S_Taken := supB_ok (d := w_Taken) (sup_at cs 1 (d := w_Taken) rfl) e5,
    o_TooMany := e6, n_TooMany := e7, S_TooMany := supB_ok (d := w_TooMany) (sup_at cs 2 (d := w_TooMany) rfl) e8,
    o_NoHouse := e9, n_NoHouse := e10, S_NoHouse := supB_ok (d := w_NoHouse) (sup_at cs 3 (d := w_NoHouse) rfl) e11,
    o_SelfLine := e12, n_SelfLine := e13, S_SelfLine := supB_ok (d := w_SelfLine) (sup_at cs 4 (d := w_SelfLine) rfl) e14,
    o_NoLine := e15, n_NoLine := e16, S_NoLine := supB_ok (d := w_NoLine) (sup_at cs 5 (d := w_NoLine) rfl) e17,
    x_tab := e22, x_cls := e23,
    m_LONGEST_NAME := glo_int X G (c.fact 49 (f := .int "LONGEST_NAME" 12) rfl),
    m_MOST_HOUSES := glo_int X G (c.fact 50 (f := .int "MOST_HOUSES" 32) rfl),
    m_MOST_LINES := glo_int X G (c.fact 51 (f := .int "MOST_LINES" 96) rfl),
  }⟩

/-! ### the law's equality -/
def AtE (x y : D) : Prop := (∃ i, x = .int i ∧ y = .int i) ∨ (∃ b, x = .bl b ∧ y = .bl b) ∨ (∃ s, x = .str s ∧ y = .str s) ∨ (x = .non ∧ y = .non)
def Sq (μ : Mu) (x y : D) (xs ys : List D) : Prop := (SeqAt μ x xs ∧ SeqAt μ y ys) ∨ (x = .tup xs ∧ y = .tup ys)
def ks (s : Str) : Key := .inr s
/-- the same value: atoms; lists; tuples; dicts of no or one key -/
def Sm (μ : Mu) : Nat → D → D → Prop
  | 0, x, y => AtE x y
  | n + 1, x, y => AtE x y ∨ (∃ xs ys, Sq μ x y xs ys ∧ xs.length = ys.length ∧ xs.length < 100000 ∧ ∀ (k : Nat) (d e : D), xs[k]? = some d → ys[k]? = some e → Sm μ n d e) ∨
    (DctAt μ x [] ∧ DctAt μ y []) ∨ ∃ s d e, DctAt μ x [(ks s, d)] ∧ DctAt μ y [(ks s, e)] ∧ Sm μ n d e
theorem sq_isn {μ : Mu} {x y : D} {xs ys : List D} {Q : QE} (h : Sq μ x y xs ys) (q : Q (.bl false) μ) : is2 false x .non μ Q ∧ is2 false y .non μ Q := by
  rcases h with ⟨(rfl | ⟨a, rfl, _⟩) | rfl, (rfl | ⟨b, rfl, _⟩) | rfl⟩ | ⟨rfl, rfl⟩ <;> exact ⟨q, q⟩
theorem dc_isn {μ : Mu} {x : D} {xs : List (Key × D)} {Q : QE} (h : DctAt μ x xs) (q : Q (.bl false) μ) : is2 false x .non μ Q := by
  rcases h with rfl | ⟨a, rfl, _⟩ <;> exact q
def sqT (b : Bool) : Ty := if b then .lst else .tup
theorem seq_ty {μ : Mu} {x : D} {xs : List D} (h : SeqAt μ x xs) : tyD μ x = some .lst := by
  rcases h with (rfl | ⟨a, rfl, h⟩) | rfl
  · rfl
  · simp only [tyD, h]
  · rfl
theorem dc_ty {μ : Mu} {x : D} {xs : List (Key × D)} (h : DctAt μ x xs) : tyD μ x = some .dct := by
  rcases h with rfl | ⟨a, rfl, h⟩
  · rfl
  · simp only [tyD, h]
theorem sq_ty {μ : Mu} {x y : D} {xs ys : List D} (h : Sq μ x y xs ys) : ∃ b, tyD μ x = some (sqT b) ∧ tyD μ y = some (sqT b) := by
  rcases h with ⟨h1, h2⟩ | ⟨rfl, rfl⟩
  · exact ⟨true, seq_ty h1, seq_ty h2⟩
  · exact ⟨false, rfl, rfl⟩
theorem sq_len {μ : Mu} {x y : D} {xs ys : List D} {Q : QE} (h : Sq μ x y xs ys) : (Q (.int xs.length) μ → len1 [x] μ Q) ∧ (Q (.int ys.length) μ → len1 [y] μ Q) := by
  rcases h with ⟨(rfl | ⟨a, rfl, h1⟩) | rfl, (rfl | ⟨b, rfl, h2⟩) | rfl⟩ | ⟨rfl, rfl⟩ <;> refine ⟨fun q => ?_, fun q => ?_⟩ <;> first | exact q | exact .inl ⟨_, h1, q⟩ | exact .inl ⟨_, h2, q⟩
theorem sq_ix {μ : Mu} {x y : D} {xs ys : List D} (h : Sq μ x y xs ys) {Q : QE} {i : Int} {d : D} : (atI xs i = some d → Q d μ → ix2 x (.int i) μ Q) ∧ (atI ys i = some d → Q d μ → ix2 y (.int i) μ Q) := by
  rcases h with ⟨h1, h2⟩ | ⟨rfl, rfl⟩
  · exact ⟨fun e q => .inl ⟨xs, i, d, .inl h1, rfl, e, q⟩, fun e q => .inl ⟨ys, i, d, .inl h2, rfl, e, q⟩⟩
  · exact ⟨fun e q => x_ixT e q, fun e q => x_ixT e q⟩
theorem isi_sq {μ : Mu} {x : D} {T : Ty} {b : Bool} {Q : QE} (h : tyD μ x = some (sqT b)) (q : Q (.bl (isTy (sqT b) T)) μ) : isi T [x, .ty T.nm] μ Q := ⟨rfl, _, h, q⟩
theorem isi_no {μ : Mu} {x : D} {T : Ty} {b : Bool} {Q : QE} (h : tyD μ x = some (sqT b)) (hT : isTy .lst T = false ∧ isTy .tup T = false) (q : Q (.bl false) μ) : isi T [x, .ty T.nm] μ Q := isi_sq h (by
  cases b with
  | true => show Q (.bl (isTy .lst T)) μ; rw [hT.1]; exact q
  | false => show Q (.bl (isTy .tup T)) μ; rw [hT.2]; exact q)
theorem isi_dc {μ : Mu} {x : D} {T : Ty} {xs : List (Key × D)} {c : Bool} {Q : QE} (h : DctAt μ x xs) (e : isTy .dct T = c) (q : Q (.bl c) μ) : isi T [x, .ty T.nm] μ Q := ⟨rfl, _, dc_ty h, by rw [e]; exact q⟩

/-! ### values that do not change: their freezing -/
def Atm (d : D) : Prop := (∃ i, d = .int i) ∨ (∃ b, d = .bl b) ∨ (∃ s, d = .str s) ∨ d = .non
/-- plain values: atoms; lists, tuples of such; dicts of no or one key -/
def Pl : Nat → D → Prop
  | 0, d => Atm d
  | n + 1, d => Atm d ∨ (∃ xs, (d = .lst xs ∨ d = .tup xs) ∧ xs.length < 1000 ∧ ∀ x ∈ xs, Pl n x) ∨ d = .dct [] ∨ ∃ s e, d = .dct [(ks s, e)] ∧ Pl n e
theorem Pl.atm {n : Nat} {d : D} (h : Atm d) : Pl n d := by
  cases n with
  | zero => exact h
  | succ n => exact .inl h
theorem ate_of {d : D} (h : Atm d) : AtE d d := by
  rcases h with ⟨i, rfl⟩ | ⟨i, rfl⟩ | ⟨i, rfl⟩ | rfl
  · exact .inl ⟨_, rfl, rfl⟩
  · exact .inr (.inl ⟨_, rfl, rfl⟩)
  · exact .inr (.inr (.inl ⟨_, rfl, rfl⟩))
  · exact .inr (.inr (.inr ⟨rfl, rfl⟩))
theorem Sm.refl {μ : Mu} : ∀ (n : Nat) (d : D), Pl n d → Sm μ n d d
  | 0, d, h => ate_of h
  | n + 1, d, h => by
    rcases h with h | ⟨xs, h, hl, he⟩ | rfl | ⟨s, e, rfl, he⟩
    · exact .inl (ate_of h)
    · refine .inr (.inl ⟨xs, xs, ?_, rfl, by omega, fun k a b ha hb => ?_⟩)
      · rcases h with rfl | rfl
        · exact .inl ⟨.f, .f⟩
        · exact .inr ⟨rfl, rfl⟩
      · rw [ha] at hb
        cases hb
        exact Sm.refl n a (he a (List.mem_of_getElem? ha))
    · exact .inr (.inr (.inl ⟨.f, .f⟩))
    · exact .inr (.inr (.inr ⟨s, e, e, .f, .f, Sm.refl n e he⟩))
theorem Pl.up : ∀ {n : Nat} {d : D}, Pl n d → Pl (n + 1) d
  | 0, d, h => .inl h
  | n + 1, d, h => by
    rcases h with h | ⟨xs, h, hl, he⟩ | rfl | ⟨s, e, rfl, he⟩
    · exact .inl h
    · exact .inr (.inl ⟨xs, h, hl, fun x hx => (he x hx).up⟩)
    · exact .inr (.inr (.inl rfl))
    · exact .inr (.inr (.inr ⟨s, e, rfl, he.up⟩))
theorem Pl.mono {n m : Nat} {d : D} (h : Pl n d) (hm : n ≤ m) : Pl m d := by
  induction hm with
  | refl => exact h
  | step _ ih => exact ih.up
/-- the frozen value -/
def frz : Nat → D → D
  | 0, d => d
  | n + 1, .lst xs => .tup [.str "list", .tup (xs.map (frz n))]
  | n + 1, .tup xs => .tup [.str "tuple", .tup (xs.map (frz n))]
  | n + 1, .dct kvs => .tup [.str "dict", .tup (kvs.map fun kv => .tup [keyV kv.1, frz n kv.2])]
  | _ + 1, d => d
theorem frz_atm {n : Nat} {d : D} (h : Atm d) : frz n d = d := by
  cases n with
  | zero => rfl
  | succ n => rcases h with ⟨i, rfl⟩ | ⟨i, rfl⟩ | ⟨i, rfl⟩ | rfl <;> rfl
/-- .. is plain -/
theorem Pl.frz : ∀ {n : Nat} {d : D}, Pl n d → Pl (3 * n) (frz n d)
  | 0, d, h => h
  | n + 1, d, h => by
    have e3 : 3 * (n + 1) = (3 * n + 2) + 1 := by omega
    rw [e3]
    rcases h with h | ⟨xs, h, hl, he⟩ | rfl | ⟨s, e, rfl, he⟩
    · rw [frz_atm h]; exact .inl h
    · have inner : Pl (3 * n + 2) (.tup (xs.map (L.frz n))) := .inr (.inl ⟨_, .inr rfl, by rw [List.length_map]; exact hl, fun x hx => by
        obtain ⟨y, hy, rfl⟩ := List.mem_map.mp hx
        exact ((he y hy).frz).mono (by omega)⟩)
      rcases h with rfl | rfl
      · refine .inr (.inl ⟨_, .inr rfl, by simp, fun x hx => ?_⟩)
        simp only [List.mem_cons, List.not_mem_nil, or_false] at hx
        rcases hx with rfl | rfl
        · exact .atm (.inr (.inr (.inl ⟨_, rfl⟩)))
        · exact inner
      · refine .inr (.inl ⟨_, .inr rfl, by simp, fun x hx => ?_⟩)
        simp only [List.mem_cons, List.not_mem_nil, or_false] at hx
        rcases hx with rfl | rfl
        · exact .atm (.inr (.inr (.inl ⟨_, rfl⟩)))
        · exact inner
    · refine .inr (.inl ⟨_, .inr rfl, by simp, fun x hx => ?_⟩)
      simp only [List.map_nil, List.mem_cons, List.not_mem_nil, or_false] at hx
      rcases hx with rfl | rfl
      · exact .atm (.inr (.inr (.inl ⟨_, rfl⟩)))
      · exact .inr (.inl ⟨_, .inr rfl, by simp, fun x hx => by simp at hx⟩)
    · refine .inr (.inl ⟨_, .inr rfl, by simp, fun x hx => ?_⟩)
      simp only [List.map_nil, List.map_cons, List.mem_cons, List.not_mem_nil, or_false] at hx
      rcases hx with rfl | rfl
      · exact .atm (.inr (.inr (.inl ⟨_, rfl⟩)))
      · refine .inr (.inl ⟨_, .inr rfl, by simp, fun x hx => ?_⟩)
        simp only [List.mem_cons, List.not_mem_nil, or_false] at hx
        subst hx
        refine .inr (.inl ⟨_, .inr rfl, by simp, fun x hx => ?_⟩)
        simp only [List.mem_cons, List.not_mem_nil, or_false] at hx
        rcases hx with rfl | rfl
        · exact .atm (.inr (.inr (.inl ⟨_, rfl⟩)))
        · exact he.frz

/-! ### the draws -/
def stO (cs : List Int) (pl dg st tk : Int) : MO := .lst [.lst (cs.map D.int), .int pl, .int dg, .int st, .int tk]
def IsSt (m : MO) : Prop := ∃ (cs : List Int) (pl : Nat) (dg st tk : Int), m = stO cs pl dg st tk ∧ cs.length ≤ 63 ∧ 0 ≤ dg ∧ 0 ≤ st ∧ st < 2147483647
def sp_l_store : Sp2 := fun ds μ Q _ => ∃ ns : List Int, ds = [.rol (ns.map D.int)] ∧ ns.length ≤ 63 ∧ ∀ (p : Addr) (m : MO), μ p = none → IsSt m → Q (.ref p) (mup μ p m)
theorem len_l_store (ds : List D) (μ : Mu) (Q : QE) (ex : Ex2) (h : sp_l_store ds μ Q ex) : ds.length = 1 := by
  obtain ⟨ns, rfl, _⟩ := h
  rfl
theorem pure_l_store (ds : List D) (μ : Mu) (Q : QE) (ex : Ex2) (h : sp_l_store ds μ Q ex) : t_l_store (ends Q) (startD ["a", "b", "c", "d"] ds) μ := by
  obtain ⟨ns, rfl, hn, q⟩ := h
  unfold t_l_store
  show jSeq _ _ (ends Q) [some _, none, none, none] μ
  walk_at "js"
  refine .f ?_
  walk_at "js"
  refine loop_inv (fun r δ μ' => μ' = μ ∧ (∃ rs : List Int, r = rs.map D.int) ∧ ∃ (k : Int) (x : Option D), 0 ≤ k ∧ (r = [] → k < 2147483647) ∧ δ = [some (D.rol (ns.map D.int)), some (D.lst (ns.map D.int)), some (.int k), x]) (fun _ _ _ _ => trivial) ?_ ?_ _ _ _ ⟨rfl, ⟨ns, rfl⟩, _, _, by omega, fun h => by simp at h; subst h; decide, rfl⟩
  · rintro x r δ μ' ⟨rfl, ⟨rs, hr⟩, k, y, hk, _, rfl⟩ QN hN
    cases rs with
    | nil => cases hr
    | cons z rs =>
      cases hr
      walk_at "js"
      exact hN _ _ ⟨rfl, ⟨rs, rfl⟩, _, _, Int.emod_nonneg _ (by decide), fun _ => Int.emod_lt_of_pos _ (by decide), rfl⟩
  · rintro δ μ' ⟨rfl, _, k, y, hk, hk2, rfl⟩
    walk_at "js"
    refine .m fun p hp => ?_
    exact .of (q p _ hp ⟨ns, 0, 0, k, 0, rfl, hn, by decide, hk, hk2 rfl⟩)
def sp_l_take : Sp2 := fun ds μ Q _ => ∃ (s : Addr) (n : Int) (m : MO), ds = [.ref s, .int n] ∧ μ s = some m ∧ IsSt m ∧ n < 2 ^ 200 ∧ ∀ (r : Int) (m' : MO), IsSt m' → 0 ≤ r → (n < 2 → r = 0) → (2 ≤ n → r < n) → Q (.int r) (mup μ s m')
theorem len_l_take (ds : List D) (μ : Mu) (Q : QE) (ex : Ex2) (h : sp_l_take ds μ Q ex) : ds.length = 2 := by
  obtain ⟨s, n, m, rfl, _⟩ := h
  rfl
theorem div_ok {n : Int} (h0 : 2 ≤ n) (h : n < 2 ^ 200) : n.natAbs.log2 < 9000 := by
  have hb : n.natAbs < 2 ^ 200 := by omega
  exact Nat.lt_of_lt_of_le (PySem.Flt.log2_lt_of (by decide) hb) (by decide)
theorem pure_l_take (ds : List D) (μ : Mu) (Q : QE) (ex : Ex2) (h : sp_l_take ds μ Q ex) : t_l_take (ends Q) (startD ["a", "b", "c", "d", "e", "f", "g", "h"] ds) μ := by
  obtain ⟨s, n, m, rfl, hs, ⟨cs, pl, dg, st, tk, rfl, hcs, hdg, hst, hst2⟩, hn, q⟩ := h
  unfold t_l_take
  show jSeq _ _ (ends Q) [some _, some _, none, none, none, none, none, none] μ
  unfold stO at hs
  walk_at "js"
  refine w_ifd (fun hc => ?_) (fun hc => ?_)
  · walk_at "js"
    have e := q 0 (stO cs pl dg st tk) ⟨cs, pl, dg, st, tk, rfl, hcs, hdg, hst, hst2⟩ (by decide) (fun _ => rfl) (fun h => by omega)
    rw [mup_self (show μ s = some (stO cs pl dg st tk) from hs)] at e
    exact .of e
  have hn2 : 2 ≤ n := by omega
  walk_at "js"
  refine w_ifd (fun hc2 => ?_) (fun hc2 => ?_)
  · walk_at "js"
    refine x_fdiv (by omega) (div_ok hn2 hn) ?_
    walk_at "js"
    exact .of (q _ _ ⟨cs, pl, dg / n, st, tk, rfl, hcs, Int.ediv_nonneg hdg (by omega), hst, hst2⟩ (Int.emod_nonneg _ (by omega)) (fun h => by omega) (fun _ => Int.emod_lt_of_pos _ (by omega)))
  walk_at "js"
  refine w_ifd (fun hc3 => ?_) (fun hc3 => ?_)
  · rw [List.length_map] at hc3
    have hpl : pl < cs.length := by omega
    walk_at "js"
    refine x_ixL (atI_some (by rw [List.getElem?_map, List.getElem?_eq_getElem hpl]; rfl)) ?_
    generalize cs[pl] = z
    walk_at "js"
    refine w_ifd (fun hc4 => ?_) (fun hc4 => ?_)
    · walk_at "js"
      refine x_fdiv (by omega) (div_ok hn2 hn) ?_
      walk_at "js"
      have h10 : (10 : Int) ^ Int.toNat 18 = 1000000000000000000 := by decide
      rw [h10] at hc4
      rw [mup_mup, mup_mup]
      exact .of (q _ _ ⟨cs, pl + 1, z / n, st, tk + 1, rfl, hcs, Int.ediv_nonneg (by omega) (by omega), hst, hst2⟩ (Int.emod_nonneg _ (by omega)) (fun h => by omega) (fun _ => Int.emod_lt_of_pos _ (by omega)))
    · walk_at "js"
      rw [mup_mup]
      have h1 := Int.emod_nonneg (z * 48271 + (tk + 1) * 69621 + 104729) (show (2147483647 : Int) ≠ 0 by decide)
      have h2 := Int.emod_lt_of_pos (z * 48271 + (tk + 1) * 69621 + 104729) (show (0 : Int) < 2147483647 by decide)
      generalize (z * 48271 + (tk + 1) * 69621 + 104729) % 2147483647 = x at *
      refine x_mulR ⟨by omega, by omega⟩ ?_
      walk_at "js"
      exact .of (q _ _ ⟨cs, pl + 1, dg, st, tk + 1, rfl, hcs, hdg, hst, hst2⟩ (Int.emod_nonneg _ (by omega)) (fun h => by omega) (fun _ => Int.emod_lt_of_pos _ (by omega)))
  · walk_at "js"
    rw [mup_mup]
    have h1 := Int.emod_nonneg (st * 48271 + (tk + 1) * 69621 + 1) (show (2147483647 : Int) ≠ 0 by decide)
    have h2 := Int.emod_lt_of_pos (st * 48271 + (tk + 1) * 69621 + 1) (show (0 : Int) < 2147483647 by decide)
    generalize (st * 48271 + (tk + 1) * 69621 + 1) % 2147483647 = x at *
    refine x_mulR ⟨by omega, by omega⟩ ?_
    walk_at "js"
    exact .of (q _ _ ⟨cs, pl, dg, x, tk + 1, rfl, hcs, hdg, h1, h2⟩ (Int.emod_nonneg _ (by omega)) (fun h => by omega) (fun _ => Int.emod_lt_of_pos _ (by omega)))

/-! ### between -/

theorem le_fresh {μ : Mu} {p : Addr} {o : MO} (h : μ p = none) : Le μ (mup μ p o) := by
  intro a u e
  have : a ≠ p := fun z => by rw [z, h] at e; cases e
  rw [mup_ne this]; exact e
theorem le_mup {μ : Mu} {p : Addr} {o o2 : MO} (h : μ p = none) : Le μ (mup (mup μ p o) p o2) := by
  rw [mup_mup]
  exact le_fresh h

/-! ### names -/
def lt (c : Nat) : Bool := decide (97 ≤ c) && decide (c ≤ 122)
def dg (c : Nat) : Bool := decide (48 ≤ c) && decide (c ≤ 57)
def nmL (l : List Nat) : Bool := match l with
  | [] => false
  | c :: _ => decide (l.length ≤ 12) && (lt c && l.all fun c => lt c || dg c)
def nmD : D → Bool
  | .str s => nmL s.cps.toList
  | _ => false
theorem one_lt (a b : Nat) : decide ((⟨#[a]⟩ : Str).cps.toList < (⟨#[b]⟩ : Str).cps.toList) = decide (a < b) := by
  show decide ([a] < [b]) = _
  refine decide_eq_decide.mpr ?_
  rw [List.cons_lt_cons_iff]
  simp
def sp_is_letter : Sp2 := fun ds μ Q _ => ∃ c : Nat, ds = [.str ⟨#[c]⟩] ∧ Q (.bl (lt c)) μ
theorem len_is_letter (ds : List D) (μ : Mu) (Q : QE) (ex : Ex2) (h : sp_is_letter ds μ Q ex) : ds.length = 1 := by
  obtain ⟨c, rfl, _⟩ := h
  rfl
theorem chain_q {a b c : Nat} {μ : Mu} {Q : QE} (q : Q (.bl (decide (a ≤ c) && decide (c ≤ b))) μ) : if (!decide ((⟨#[c]⟩ : Str).cps.toList < (⟨#[a]⟩ : Str).cps.toList)) = true then Q (.bl (!decide ((⟨#[b]⟩ : Str).cps.toList < (⟨#[c]⟩ : Str).cps.toList))) μ else Q (.bl false) μ := by
  rw [one_lt, one_lt]
  by_cases h1 : a ≤ c
  · rw [decide_eq_true h1, Bool.true_and] at q
    rw [decide_eq_false (show ¬ c < a by omega)]
    refine w_true ?_
    by_cases h2 : c ≤ b
    · rw [decide_eq_true h2] at q
      rw [decide_eq_false (show ¬ b < c by omega)]
      exact q
    · rw [decide_eq_false h2] at q
      rw [decide_eq_true (show b < c by omega)]
      exact q
  · rw [decide_eq_false h1, Bool.false_and] at q
    rw [decide_eq_true (show c < a by omega)]
    exact w_false q
theorem pure_is_letter (ds : List D) (μ : Mu) (Q : QE) (ex : Ex2) (h : sp_is_letter ds μ Q ex) : t_is_letter (ends Q) (startD ["a"] ds) μ := by
  obtain ⟨c, rfl, q⟩ := h
  unfold t_is_letter
  show jRet _ (ends Q) [some _] μ
  walk_at "js"
  exact chain_q (a := 97) (b := 122) (Q := Upd Q) (.of q)
def sp_is_digit : Sp2 := fun ds μ Q _ => ∃ c : Nat, ds = [.str ⟨#[c]⟩] ∧ Q (.bl (dg c)) μ
theorem len_is_digit (ds : List D) (μ : Mu) (Q : QE) (ex : Ex2) (h : sp_is_digit ds μ Q ex) : ds.length = 1 := by
  obtain ⟨c, rfl, _⟩ := h
  rfl
theorem pure_is_digit (ds : List D) (μ : Mu) (Q : QE) (ex : Ex2) (h : sp_is_digit ds μ Q ex) : t_is_digit (ends Q) (startD ["a"] ds) μ := by
  obtain ⟨c, rfl, q⟩ := h
  unfold t_is_digit
  show jRet _ (ends Q) [some _] μ
  walk_at "js"
  exact chain_q (a := 48) (b := 57) (Q := Upd Q) (.of q)
/-- a value whose texts are not too long -/
def Sh (v : D) : Prop := ∀ s, v = .str s → s.length ≤ 1000
theorem ty_str {μ : Mu} {d : D} (h : tyD μ d = some .str) : ∃ s, d = .str s := by
  cases d with
  | str s => exact ⟨s, rfl⟩
  | ref a =>
    simp only [tyD] at h
    split at h <;> cases h
  | _ => cases h
def sp_is_name : Sp2 := fun ds μ Q _ => ∃ (v : D) (t : Ty), ds = [v] ∧ tyD μ v = some t ∧ Sh v ∧ Q (.bl (nmD v)) μ
theorem len_is_name (ds : List D) (μ : Mu) (Q : QE) (ex : Ex2) (h : sp_is_name ds μ Q ex) : ds.length = 1 := by
  obtain ⟨v, t, rfl, _⟩ := h
  rfl
theorem nm_no {v : D} {μ : Mu} {t : Ty} (ht : tyD μ v = some t) (hs : t ≠ .str) : nmD v = false ∧ isTy t .str = false := by
  constructor
  · cases v with
    | str s => cases ht; exact absurd rfl hs
    | _ => rfl
  · cases t <;> first | rfl | exact absurd rfl hs
def ldF : D → D
  | .str s => .bl (s.cps.toList.all fun c => lt c || dg c)
  | d => d
theorem pure_is_name (ds : List D) (μ : Mu) (Q : QE) (ex : Ex2) (h : sp_is_name ds μ Q ex) : t_is_name sp_is_letter sp_is_digit (ends Q) (startD ["a", "b"] ds) μ := by
  obtain ⟨v, t, rfl, ht, hsh, q⟩ := h
  unfold t_is_name
  show jSeq _ _ (ends Q) [some _, none] μ
  have hsz := sizeLine_eq
  by_cases hs : t = .str
  · subst hs
    obtain ⟨s, rfl⟩ := ty_str ht
    have hl := hsh s rfl
    walk_at "js"
    refine w_false ?_
    walk_at "js"
    refine x_lenS (by omega) ?_
    walk_at "js"
    obtain ⟨⟨l⟩⟩ := s
    have el : ((⟨⟨l⟩⟩ : Str).length : Int) = l.length := rfl
    rw [el]
    have hl : l.length ≤ 1000 := hl
    have q : Q (.bl (nmL l)) μ := q
    cases l with
    | nil =>
      rw [decide_eq_false (show ¬ (1 : Int) ≤ (([] : List Nat).length : Nat) by decide)]
      refine w_false ?_
      refine ⟨false, rfl, w_true ?_⟩
      walk_at "js"
      exact .of q
    | cons c l =>
      rw [decide_eq_true (show (1 : Int) ≤ ((c :: l).length : Nat) by simp only [List.length_cons]; omega)]
      refine w_true ?_
      walk_at "js"
      refine w_ifn (fun h => ?_) (fun h => ?_)
      · walk_at "js"
        have e : nmL (c :: l) = false := by
          show (decide ((c :: l).length ≤ 12) && _) = false
          rw [decide_eq_false (by omega)]
          rfl
        rw [e] at q
        exact .of q
      walk_at "js"
      have e : nmL (c :: l) = (lt c && (c :: l).all fun c => lt c || dg c) := by
        show (decide ((c :: l).length ≤ 12) && _) = _
        rw [decide_eq_true (show (c :: l).length ≤ 12 by have : ((c :: l).length : Int) ≤ 12 := h; omega)]
        rfl
      rw [e] at q
      refine x_ixS (c := c) (by show (c :: l).length ≤ sizeLine; omega) (atI_nat (xs := c :: l) (j := 0) rfl) ?_
      refine ⟨c, rfl, .of ?_⟩
      refine ⟨_, rfl, ?_⟩
      cases hc : lt c with
      | false =>
        rw [hc] at q
        refine w_true ?_
        walk_at "js"
        exact .of q
      | true =>
        rw [hc] at q
        refine w_false ?_
        walk_at "js"
        refine lc_map (μ := μ) (fun d => match d with
          | .str s => .bl (match s.cps.toList with
            | [c] => lt c || dg c
            | _ => false)
          | d => d) (strD ⟨⟨c :: l⟩⟩) (by show ((c :: l).map _).length < _; rw [List.length_map]; omega) (fun x hx Y hy => ?_) (.f ?_)
        · obtain ⟨z, _, rfl⟩ := List.mem_map.mp hx
          have hy : Y (.bl (lt z || dg z)) μ := hy
          show kName 1 (.str ⟨#[z]⟩) _ _ _
          walk_at "js"
          refine ⟨z, rfl, .of ?_⟩
          refine ⟨_, rfl, ?_⟩
          cases hz : lt z with
          | true =>
            rw [hz] at hy
            exact w_true hy
          | false =>
            rw [hz] at hy
            refine w_false ?_
            walk_at "js"
            exact ⟨z, rfl, .of hy⟩
        · have em : (strD ⟨⟨c :: l⟩⟩).map (fun d => match d with
            | .str s => D.bl (match s.cps.toList with
              | [c] => lt c || dg c
              | _ => false)
            | d => d) = ((c :: l).map fun z => lt z || dg z).map D.bl := by
            show ((c :: l).map _).map _ = _
            rw [List.map_map, List.map_map]
            rfl
          rw [em]
          walk_at "js"
          refine ⟨_, .f, .of ?_⟩
          rw [List.all_map]
          exact q
  · obtain ⟨e1, e2⟩ := nm_no ht hs
    rw [e1] at q
    walk_at "js"
    refine x_isi rfl ht ?_
    rw [e2]
    refine ⟨false, rfl, w_true ?_⟩
    walk_at "js"
    exact .of q

/-! ### check_name -/
def sp_check_name : Sp2 := fun ds μ Q ex => ∃ (v : D) (t : Ty), ds = [v] ∧ tyD μ v = some t ∧ Sh v ∧ (nmD v = true → Q v μ) ∧ (nmD v = false → ex "BadName" [("word", v), ("code", .str "BadName")] μ)
theorem len_check_name (ds : List D) (μ : Mu) (Q : QE) (ex : Ex2) (h : sp_check_name ds μ Q ex) : ds.length = 1 := by
  obtain ⟨v, t, rfl, _⟩ := h
  rfl
theorem pure_check_name (ds : List D) (μ : Mu) (Q : QE) (ex : Ex2) (h : sp_check_name ds μ Q ex) : t_check_name sp_is_name (fun _ => ex) (ends Q) (startD ["a"] ds) μ := by
  obtain ⟨v, t, rfl, ht, hs, q1, q2⟩ := h
  unfold t_check_name
  show jSeq _ _ (ends Q) [some _] μ
  walk_at "js"
  refine ⟨v, t, rfl, ht, hs, .of ?_⟩
  refine ⟨_, rfl, ?_⟩
  cases hn : nmD v with
  | true =>
    refine w_false ?_
    walk_at "js"
    exact .of (q1 hn)
  | false =>
    refine w_true ?_
    walk_at "js"
    exact ⟨rfl, .of (q2 hn)⟩
/-! ### signs -/
abbrev abc : Str := "abcdefghijklmnopqrstuvwxyz"
abbrev d10 : Str := "0123456789"
abbrev d36 : Str := "0123456789abcdefghijklmnopqrstuvwxyz"
abbrev a36 : Str := "abcdefghijklmnopqrstuvwxyz0123456789"
theorem pick_at {z : Str} {p : Nat → Bool} {r : Int} (n : Nat) (hz : z.length = n) (ha : z.cps.toList.all p = true) (h0 : 0 ≤ r) (h1 : r < (n : Int)) : ∃ c, atI z.cps.toList r = some c ∧ p c = true ∧ c ∈ z.cps.toList := by
  obtain ⟨k, rfl⟩ : ∃ k : Nat, r = k := ⟨r.toNat, by omega⟩
  have hk : k < z.cps.toList.length := by
    show k < z.cps.toList.length
    rw [Array.length_toList]
    have : z.cps.size = n := hz
    omega
  exact ⟨_, atI_nat (List.getElem?_eq_getElem hk), List.all_eq_true.mp ha _ (List.getElem_mem hk), List.getElem_mem hk⟩
theorem abc_in (c : Nat) : decide (c ∈ abc.cps.toList) = lt c := by
  have e : abc.cps.toList = List.range' 97 26 := by decide +kernel
  rw [e]
  unfold lt
  rw [← Bool.decide_and]
  refine decide_eq_decide.mpr ?_
  rw [List.mem_range'_1]
  omega
theorem a36_in (c : Nat) : decide (c ∈ a36.cps.toList) = (lt c || dg c) := by
  have e : a36.cps.toList = List.range' 97 26 ++ List.range' 48 10 := by decide +kernel
  rw [e]
  unfold lt dg
  rw [← Bool.decide_and, ← Bool.decide_and, ← Bool.decide_or]
  refine decide_eq_decide.mpr ?_
  rw [List.mem_append, List.mem_range'_1, List.mem_range'_1]
  omega
theorem app1 (l : List Nat) (c : Nat) : (⟨⟨l⟩⟩ : Str) ++ (⟨#[c]⟩ : Str) = ⟨⟨l ++ [c]⟩⟩ := congrArg Str.mk (Array.ext' (by simp))
theorem lenL1 {l : List Nat} : (⟨⟨l⟩⟩ : Str).length = l.length := rfl
/-! ### the law's is_name -/
theorem x_ninS {i : Nat} {j : Str} {μ : Mu} {Q : QE} (h : Q (.bl (!decide (i ∈ j.cps.toList))) μ) : in2 true (.str ⟨#[i]⟩) (.str j) μ Q := .inr (.inl ⟨i, _, j, rfl, rfl, rfl, by rw [Bool.true_xor]; exact h⟩)

/-! ### ordered -/
def ltS (x y : Str) : Bool := decide (x.cps.toList < y.cps.toList)
def ordD (x y : Str) : D := if ltS y x = true then .tup [.str y, .str x] else .tup [.str x, .str y]
def sp_ordered : Sp2 := fun ds μ Q _ => ∃ x y : Str, ds = [.str x, .str y] ∧ Q (ordD x y) μ
theorem len_ordered (ds : List D) (μ : Mu) (Q : QE) (ex : Ex2) (h : sp_ordered ds μ Q ex) : ds.length = 2 := by
  obtain ⟨x, y, rfl, _⟩ := h
  rfl
theorem pure_ordered (ds : List D) (μ : Mu) (Q : QE) (ex : Ex2) (h : sp_ordered ds μ Q ex) : t_ordered (ends Q) (startD ["a", "b"] ds) μ := by
  obtain ⟨x, y, rfl, q⟩ := h
  unfold t_ordered
  show jSeq _ _ (ends Q) [some _, some _] μ
  unfold ordD ltS at q
  walk_at "js"
  refine w_ifd (fun h => ?_) (fun h => ?_)
  · rw [decide_eq_true h, if_pos rfl] at q
    walk_at "js"
    exact .of q
  · rw [decide_eq_false h, if_neg Bool.false_ne_true] at q
    walk_at "js"
    exact .of q

/-! ### one of them -/
def LV (μ : Mu) (s : Addr) (v : D) (xs : List D) : Prop := v = .lst xs ∨ ∃ p, v = .ref p ∧ p ≠ s ∧ μ p = some (.lst xs)
/-! ### a name -/
theorem lenS1 {c : Nat} : (⟨#[c]⟩ : Str).length = 1 := rfl
def nm1 (l : List Nat) : Bool := match l with
  | [] => false
  | c :: _ => lt c && l.all fun c => lt c || dg c
theorem nmL_of {l : List Nat} (h : nm1 l = true) (hl : l.length ≤ 12) : nmL l = true := by
  cases l with
  | nil => cases h
  | cons c l =>
    show (decide ((c :: l).length ≤ 12) && _) = true
    rw [decide_eq_true hl]
    exact h
theorem nmL_len {l : List Nat} (h : nmL l = true) : 0 < l.length ∧ l.length ≤ 12 := by
  cases l with
  | nil => cases h
  | cons c l =>
    have h : (decide ((c :: l).length ≤ 12) && _) = true := h
    rw [Bool.and_eq_true] at h
    exact ⟨by simp, of_decide_eq_true h.1⟩
theorem nm1_one {c : Nat} (h : lt c = true) : nm1 [c] = true := by
  show (lt c && ((lt c || dg c) && true)) = true
  rw [h]
  rfl
theorem nm1_app {l : List Nat} {c : Nat} (h : nm1 l = true) (hc : (lt c || dg c) = true) : nm1 (l ++ [c]) = true := by
  cases l with
  | nil => cases h
  | cons a l =>
    have h : (lt a && (a :: l).all fun c => lt c || dg c) = true := h
    show (lt a && ((a :: l) ++ [c]).all fun c => lt c || dg c) = true
    rw [Bool.and_eq_true] at h ⊢
    refine ⟨h.1, ?_⟩
    rw [List.all_append, h.2, Bool.true_and]
    show ((lt c || dg c) && true) = true
    rw [hc]
    rfl
theorem nm1_hd {l : List Nat} (h : nm1 l = true) : ∃ c r, l = c :: r ∧ lt c = true := by
  cases l with
  | nil => cases h
  | cons c r =>
    have h : (lt c && _) = true := h
    rw [Bool.and_eq_true] at h
    exact ⟨c, r, rfl, h.1⟩

/-! ### a shuffled list -/
theorem swap_perm {xs : List D} {i j : Nat} {x y : D} (hi : xs[i]? = some x) (hj : xs[j]? = some y) : ((xs.set i y).set j x).Perm xs := by
  obtain ⟨h1, e1⟩ := List.getElem?_eq_some_iff.mp hi
  obtain ⟨h2, e2⟩ := List.getElem?_eq_some_iff.mp hj
  subst e1 e2
  exact List.set_set_perm h1 h2
/-- what is told once a fresh list at p is done with -/
theorem newL_upd {xs : List D} {μ : Mu} {p : Addr} {Q : QE} (hp : μ p = none) (h : NewL xs μ Q) : Upd Q (.ref p) (mup μ p (.lst xs)) := by
  rcases h with h | h
  · exact .lst mup_same (by rw [mdel_mup hp]; exact h)
  · exact .of (h p hp)
theorem lv_list {μ : Mu} {s : Addr} {v : D} {xs : List D} {Q : QE} (h : LV μ s v xs) (q : NewL xs μ Q) : list1 [v] μ Q := by
  rcases h with rfl | ⟨p, rfl, _, hp⟩
  · exact x_listL q
  · exact x_listM hp q
/-! ### a tuple or a list of them -/
def LT (d : D) (xs : List D) : Prop := d = .lst xs ∨ d = .tup xs
theorem lv_tuple {μ : Mu} {s : Addr} {v : D} {xs : List D} {Q : QE} (h : LV μ s v xs) (q : Q (.tup xs) μ) : tuple1 [v] μ Q := by
  rcases h with rfl | ⟨p, rfl, _, hp⟩
  · exact x_tupleL q
  · exact x_tupleM hp q
theorem LV.mup {μ : Mu} {s : Addr} {v : D} {xs : List D} (h : LV μ s v xs) (m : MO) : LV (mup μ s m) s v xs := by
  rcases h with rfl | ⟨p, rfl, h1, hp⟩
  · exact .inl rfl
  · exact .inr ⟨p, rfl, h1, (mup_ne h1).trans hp⟩

/-! ### texts of one sign, over and over -/
theorem fold_rep (c : Nat) : ∀ (n : Nat) (acc : Array Nat), ((List.replicate n #[c]).foldl (fun x1 x2 => x1 ++ x2) acc).toList = acc.toList ++ List.replicate n c
  | 0, acc => by simp
  | n + 1, acc => by
    rw [List.replicate_succ, List.foldl_cons, fold_rep c n, Array.toList_append, List.replicate_succ]
    simp
theorem mul_rep (c k : Nat) : Txt.mul ⟨#[c]⟩ (k : Int) = ⟨⟨List.replicate k c⟩⟩ := by
  unfold Txt.mul
  by_cases h : (k : Int) < 1
  · have : k = 0 := by omega
    subst this
    rw [if_pos h]
    rfl
  rw [if_neg h]
  by_cases h1 : ((k : Int) == 1 || (⟨#[c]⟩ : Str).length == 0) = true
  · rw [if_pos h1]
    have : k = 1 := by
      have e : ((k : Int) == 1) = true := by
        rw [Bool.or_eq_true] at h1
        rcases h1 with h1 | h1
        · exact h1
        · exact absurd (show (1 == 0) = true from h1) (by decide)
      have := eq_of_beq e
      omega
    subst this
    rfl
  · rw [if_neg h1]
    refine congrArg Str.mk (Array.ext' ?_)
    rw [Int.toNat_natCast, fold_rep]
    rfl
/-! ### names, all different -/
def nmS (w : Str) : Prop := nmL w.cps.toList = true
/-- so many names, all different -/
def Nms (n : Nat) (ys : List Str) : Prop := ys.length = n ∧ (∀ y ∈ ys, nmS y) ∧ ys.Nodup
theorem Nms.perm {n : Nat} {xs ys : List Str} (h : Nms n xs) (p : ys.Perm xs) : Nms n ys := ⟨p.length_eq.trans h.1, fun y hy => h.2.1 y (p.subset hy), p.nodup_iff.mpr h.2.2⟩
def Wl (W : Nat → Str → Prop) (k : Nat) (ys : List Str) : Prop := ys.length = k ∧ ∀ j w, ys[j]? = some w → W j w
theorem Wl.nil {W : Nat → Str → Prop} : Wl W 0 [] := ⟨rfl, fun j w h => by simp at h⟩
theorem Wl.app {W : Nat → Str → Prop} {k : Nat} {ys : List Str} {w : Str} (h : Wl W k ys) (hw : W k w) : Wl W (k + 1) (ys ++ [w]) := by
  obtain ⟨h1, h2⟩ := h
  refine ⟨by rw [List.length_append, h1]; rfl, fun j v hv => ?_⟩
  by_cases hj : j < ys.length
  · rw [List.getElem?_append_left hj] at hv
    exact h2 j v hv
  · rw [List.getElem?_append_right (by omega)] at hv
    have e : j - ys.length = 0 := by
      by_cases h0 : j - ys.length = 0
      · exact h0
      · rw [List.getElem?_eq_none (by simp; omega)] at hv
        cases hv
    rw [e] at hv
    have e2 : j = k := by omega
    subst e2
    cases hv
    exact hw
theorem Wl.nms {W : Nat → Str → Prop} {n : Nat} {ys : List Str} (h : Wl W n ys) (h1 : ∀ j w, j < n → W j w → nmS w) (h2 : ∀ i j w, i < n → j < n → W i w → W j w → i = j) : Nms n ys := by
  obtain ⟨hl, h⟩ := h
  refine ⟨hl, fun y hy => ?_, ?_⟩
  · obtain ⟨j, hj, rfl⟩ := List.getElem_of_mem hy
    exact h1 j _ (by omega) (h j _ (List.getElem?_eq_getElem hj))
  · refine List.pairwise_iff_getElem.mpr fun i j hi hj hij he => ?_
    have := h2 i j ys[i] (by omega) (by omega) (h i _ (List.getElem?_eq_getElem hi)) (h j _ (by rw [List.getElem?_eq_getElem hj, he]))
    omega
def sgn (c : Nat) : Bool := lt c || dg c
theorem nm1_apps {l r : List Nat} (h : nm1 l = true) (hr : r.all sgn = true) : nm1 (l ++ r) = true := by
  cases l with
  | nil => cases h
  | cons a l =>
    have h : (lt a && (a :: l).all sgn) = true := h
    show (lt a && ((a :: l) ++ r).all sgn) = true
    rw [Bool.and_eq_true] at h ⊢
    exact ⟨h.1, by rw [List.all_append, h.2, hr]; rfl⟩
def W0 (f g : Nat) (j : Nat) (w : Str) : Prop := w = ⟨⟨f :: List.replicate j g⟩⟩
theorem W0.nms {f g n : Nat} {ys : List Str} (h : Wl (W0 f g) n ys) (hf : lt f = true) (hg : sgn g = true) (hn : n ≤ 12) : Nms n ys := by
  refine h.nms (fun j w hj hw => ?_) (fun i j w _ _ hi hj => ?_)
  · cases hw
    refine nmL_of (nm1_apps (l := [f]) (nm1_one hf) ?_) ?_
    · exact List.all_eq_true.mpr fun x hx => by rw [List.eq_of_mem_replicate hx]; exact hg
    · show (f :: List.replicate j g).length ≤ 12
      simp
      omega
  · rw [hi] at hj
    have e : (f :: List.replicate i g) = (f :: List.replicate j g) := by
      have := congrArg (fun s : Str => s.cps.toList) hj
      exact this
    have := congrArg List.length e
    simpa using this
def abcL : List Nat := abc.cps.toList
def d36L : List Nat := d36.cps.toList
theorem abc_nd : abcL.Nodup := by decide +kernel
theorem d36_nd : d36L.Nodup := by decide +kernel
def W1 (st : Nat) (j : Nat) (w : Str) : Prop := ∃ c, abcL[(st + j) % 26]? = some c ∧ w = ⟨⟨[c]⟩⟩
theorem abc_all {c : Nat} (h : c ∈ abcL) : lt c = true := List.all_eq_true.mp (show abcL.all lt = true by decide +kernel) c h
theorem d36_all {c : Nat} (h : c ∈ d36L) : sgn c = true := List.all_eq_true.mp (show d36L.all sgn = true by decide +kernel) c h
theorem W1.nms {st n : Nat} {ys : List Str} (h : Wl (W1 st) n ys) (hn : n ≤ 26) : Nms n ys := by
  refine h.nms (fun j w hj hw => ?_) (fun i j w hi hj h1 h2 => ?_)
  · obtain ⟨c, hc, rfl⟩ := hw
    exact nmL_of (nm1_one (abc_all (List.mem_of_getElem? hc))) (by show 1 ≤ 12; omega)
  · obtain ⟨c, hc, rfl⟩ := h1
    obtain ⟨d, hd, e⟩ := h2
    have e2 : [c] = [d] := congrArg (fun s : Str => s.cps.toList) e
    cases e2
    have hl : abcL.length = 26 := by decide +kernel
    have := (List.getElem?_inj (by rw [hl]; omega) abc_nd).mp (hc.trans hd.symm)
    omega
def cod (st sp j : Nat) : Nat := (st + j * sp) % 1296
def W2 (ah : List Nat) (st sp : Nat) (j : Nat) (w : Str) : Prop := ∃ a b tl, d36L[cod st sp j / 36]? = some a ∧ d36L[cod st sp j % 36]? = some b ∧ tl.length ≤ 4 ∧ tl.all sgn = true ∧ w = ⟨⟨ah ++ a :: b :: tl⟩⟩
def stps : List Nat := [1, 5, 7, 37, 1295]
theorem cod_inj {st sp i j : Nat} (hs : sp ∈ stps) (hi : i < 1296) (hj : j < 1296) (h : cod st sp i = cod st sp j) : i = j := by
  unfold cod at h
  simp only [stps, List.mem_cons, List.not_mem_nil, or_false] at hs
  rcases hs with rfl | rfl | rfl | rfl | rfl <;> omega
theorem W2.nms {ah : List Nat} {st sp n : Nat} {ys : List Str} (h : Wl (W2 ah st sp) n ys) (ha : nm1 ah = true) (hl : ah.length ≤ 6) (hs : sp ∈ stps) (hn : n ≤ 1296) : Nms n ys := by
  have h36 : d36L.length = 36 := by decide +kernel
  have hc : ∀ j, cod st sp j < 1296 := fun j => Nat.mod_lt _ (by decide)
  refine h.nms (fun j w hj hw => ?_) (fun i j w hi hj h1 h2 => ?_)
  · obtain ⟨a, b, tl, h1, h2, h3, h4, rfl⟩ := hw
    refine nmL_of (nm1_apps ha ?_) ?_
    · rw [List.all_cons, List.all_cons, d36_all (List.mem_of_getElem? h1), d36_all (List.mem_of_getElem? h2), h4]
      rfl
    · show (ah ++ a :: b :: tl).length ≤ 12
      simp
      omega
  · obtain ⟨a, b, tl, p1, p2, _, _, rfl⟩ := h1
    obtain ⟨a2, b2, tl2, q1, q2, _, _, e⟩ := h2
    have e2 : ah ++ a :: b :: tl = ah ++ a2 :: b2 :: tl2 := congrArg (fun s : Str => s.cps.toList) e
    have e3 := List.append_cancel_left e2
    injection e3 with e4 e5
    injection e5 with e6 e7
    subst e4 e6
    have r1 := (List.getElem?_inj (by rw [h36]; have := hc i; omega) d36_nd).mp (p1.trans q1.symm)
    have r2 := (List.getElem?_inj (by rw [h36]; omega) d36_nd).mp (p2.trans q2.symm)
    exact cod_inj (st := st) hs (by omega) (by omega) (by omega)

/-! ### names drawn -/
theorem perm_strs {ys : List D} {xs : List Str} (h : ys.Perm (xs.map D.str)) : ∃ ks : List Str, ks.Perm xs ∧ ys = ks.map D.str := by
  refine ⟨ys.map fun d => match d with | .str s => s | _ => "", ?_, ?_⟩
  · have := h.map fun d => match d with | D.str s => s | _ => ""
    rw [List.map_map] at this
    exact this.trans (List.Perm.of_eq ((List.map_congr_left (g := id) (fun _ _ => rfl)).trans (List.map_id _)))
  · rw [List.map_map]
    refine Eq.symm ((List.map_congr_left (g := id) fun q hq => ?_).trans (List.map_id _))
    obtain ⟨x, _, rfl⟩ := List.mem_map.mp (h.subset hq)
    rfl
/-- so many names are told, in a list that may still change or not -/
def TellN (n : Nat) (s : Addr) (μ : Mu) (Q : QE) : Prop := ∀ (ys : List Str) (m' : MO), IsSt m' → Nms n ys → NewL (ys.map D.str) (mup μ s m') Q
theorem d36_eq : ("0123456789" : Str) ++ abc = d36 := by decide +kernel
theorem mod_nat (a b : Nat) : (a : Int) % (b : Int) = ((a % b : Nat) : Int) := rfl
theorem div_nat (a b : Nat) : (a : Int) / (b : Int) = ((a / b : Nat) : Int) := rfl
theorem abc_at {k : Nat} (hk : k < 26) : ∃ c, abcL[k]? = some c := ⟨_, List.getElem?_eq_getElem (show k < abcL.length by rw [show abcL.length = 26 by decide +kernel]; exact hk)⟩
theorem d36_at {k : Nat} (hk : k < 36) : ∃ c, d36L[k]? = some c := ⟨_, List.getElem?_eq_getElem (show k < d36L.length by rw [show d36L.length = 36 by decide +kernel]; exact hk)⟩
theorem w_and2 {c1 c2 : Prop} [Decidable c1] [Decidable c2] {J A B : Prop} (hJ : (if decide c2 = true then A else B) → J) (h1 : c1 → c2 → A) (h2 : ¬ (c1 ∧ c2) → B) : if decide c1 = true then J else (if false = true then A else B) := by
  by_cases a : c1
  · rw [decide_eq_true a]
    refine w_true (hJ ?_)
    by_cases b : c2
    · rw [decide_eq_true b]
      exact w_true (h1 a b)
    · rw [decide_eq_false b]
      exact w_false (h2 fun h => b h.2)
  · rw [decide_eq_false a]
    exact w_false (w_false (h2 fun h => a h.1))
theorem appL (l r : List Nat) : (⟨⟨l⟩⟩ : Str) ++ (⟨⟨r⟩⟩ : Str) = ⟨⟨l ++ r⟩⟩ := congrArg Str.mk (Array.ext' (by simp))

/-! ### bad words -/
theorem sApp (x y : Str) : (x ++ y).length = x.length + y.length := by
  show (x.cps ++ y.cps).size = _
  rw [Array.size_append]
  rfl
theorem cut_le {z : Str} {lo hi : Option Int} {n : Nat} (h : z.length ≤ n) : (cutS z lo hi).length ≤ n := Nat.le_trans (cutS_length z lo hi) h
/-- a text of at most n signs is told -/
def TellS (n : Nat) (s : Addr) (μ : Mu) (Q : QE) : Prop := ∀ (z : Str) (m' : MO), IsSt m' → z.length ≤ n → Q (.str z) (mup μ s m')
/-! ### no names -/
def notNames (w : Str) : List D := [.non, .bl true, .bl false, .int 0, .int 1, .int (-1), .lst [], .lst [.str w], .tup [], .tup [.str w], .dct [], .lst [.int 1, .str "a"], .tup [.str w, .str w]]
theorem pl_int {n : Nat} {i : Int} : Pl n (.int i) := .atm (.inl ⟨i, rfl⟩)
theorem pl_str {n : Nat} {w : Str} : Pl n (.str w) := .atm (.inr (.inr (.inl ⟨w, rfl⟩)))
theorem sh_no {v : D} (h : ∀ s, v ≠ .str s) : Sh v := fun s e => absurd e (h s)
theorem notNames_pl (w : Str) : ∀ d ∈ notNames w, Pl 1 d ∧ Sh d := by
  intro d hd
  simp only [notNames, List.mem_cons, List.not_mem_nil, or_false] at hd
  have p0 : ∀ x, x = D.str w → Pl 0 x := fun x e => by subst e; exact pl_str
  rcases hd with rfl | rfl | rfl | rfl | rfl | rfl | rfl | rfl | rfl | rfl | rfl | rfl | rfl <;> refine ⟨?_, sh_no fun s e => by cases e⟩
  · exact .inl (.inr (.inr (.inr rfl)))
  · exact .inl (.inr (.inl ⟨_, rfl⟩))
  · exact .inl (.inr (.inl ⟨_, rfl⟩))
  · exact pl_int
  · exact pl_int
  · exact pl_int
  · exact .inr (.inl ⟨_, .inl rfl, by simp, fun x hx => by simp at hx⟩)
  · exact .inr (.inl ⟨_, .inl rfl, by simp, fun x hx => p0 x (by simpa using hx)⟩)
  · exact .inr (.inl ⟨_, .inr rfl, by simp, fun x hx => by simp at hx⟩)
  · exact .inr (.inl ⟨_, .inr rfl, by simp, fun x hx => p0 x (by simpa using hx)⟩)
  · exact .inr (.inr (.inl rfl))
  · exact .inr (.inl ⟨_, .inl rfl, by simp, fun x hx => by
      simp only [List.mem_cons, List.not_mem_nil, or_false] at hx
      rcases hx with rfl | rfl
      · exact pl_int
      · exact pl_str⟩)
  · exact .inr (.inl ⟨_, .inr rfl, by simp, fun x hx => p0 x (by simpa using hx)⟩)
def TellV (s : Addr) (μ : Mu) (Q : QE) : Prop := ∀ (v : D) (m' : MO), IsSt m' → Pl 1 v → Sh v → Q v (mup μ s m')
theorem sh_str {w : Str} (h : w.length ≤ 1000) : Sh (.str w) := fun s e => by cases e; exact h

/-! ### a further name -/
def nonB : D → Bool
  | .non => true
  | _ => false
theorem x_isnN {d : D} {μ : Mu} {Q : QE} (h : Q (.bl (!nonB d)) μ) : is2 true d .non μ Q := by
  cases d <;> exact h
theorem x_isN {d : D} {μ : Mu} {Q : QE} (h : Q (.bl (nonB d)) μ) : is2 false d .non μ Q := by
  cases d <;> exact h
/-- a value that a row may hold -/
def Vl (v : D) : Prop := Pl 1 v ∧ Sh v
theorem Pl.ty : ∀ {n : Nat} {d : D}, Pl n d → ∃ t, ∀ μ, tyD μ d = some t
  | 0, d, h => by rcases h with ⟨i, rfl⟩ | ⟨i, rfl⟩ | ⟨i, rfl⟩ | rfl <;> exact ⟨_, fun _ => rfl⟩
  | n + 1, d, h => by
    rcases h with (⟨i, rfl⟩ | ⟨i, rfl⟩ | ⟨i, rfl⟩ | rfl) | ⟨xs, rfl | rfl, _⟩ | rfl | ⟨s, e, rfl, _⟩ <;> exact ⟨_, fun _ => rfl⟩
theorem Pl.any : ∀ {n : Nat} {d : D}, Pl n d → d.any = true
  | 0, d, h => by rcases h with ⟨i, rfl⟩ | ⟨i, rfl⟩ | ⟨i, rfl⟩ | rfl <;> rfl
  | n + 1, d, h => by
    rcases h with (⟨i, rfl⟩ | ⟨i, rfl⟩ | ⟨i, rfl⟩ | rfl) | ⟨xs, rfl | rfl, _⟩ | rfl | ⟨s, e, rfl, _⟩ <;> rfl
theorem nmL_cut {l : List Nat} (h : nmL l = true) (h12 : l.length = 12) : cutS ⟨⟨l⟩⟩ none (some 11) = ⟨⟨l.take 11⟩⟩ ∧ nmL (l.take 11) = true := by
  constructor
  · unfold cutS
    rw [show (⟨⟨l⟩⟩ : Str).length = 12 from h12]
    rfl
  · cases l with
    | nil => cases h
    | cons c l =>
      have h : (decide ((c :: l).length ≤ 12) && (lt c && (c :: l).all fun c => lt c || dg c)) = true := h
      rw [Bool.and_eq_true, Bool.and_eq_true] at h
      refine nmL_of ?_ (by rw [List.length_take]; omega)
      show (lt c && ((c :: l).take 11).all fun c => lt c || dg c) = true
      rw [h.2.1, Bool.true_and]
      exact List.all_eq_true.mpr fun x hx => List.all_eq_true.mp h.2.2 x (List.mem_of_mem_take hx)
theorem nmL_nm1 {l : List Nat} (h : nmL l = true) : nm1 l = true := by
  cases l with
  | nil => cases h
  | cons c l =>
    have h : (decide ((c :: l).length ≤ 12) && (lt c && (c :: l).all fun c => lt c || dg c)) = true := h
    rw [Bool.and_eq_true] at h
    exact h.2
theorem qk_nm : ∀ k : Fin 70, nmL (("q" : Str) ++ toString ((k.val : Nat) : Int)).cps.toList = true := by decide +kernel
theorem log_small {k : Nat} (h : k < 1000) : ((k : Nat) : Int).natAbs.log2 < 1920 := by
  rw [Int.natAbs_natCast]
  exact Nat.lt_of_le_of_lt (Nat.log2_le_self k) (by omega)
theorem LV.seq {μ : Mu} {s : Addr} {v : D} {xs : List D} (h : LV μ s v xs) (m : MO) : SeqAt (J.mup μ s m) v xs := by
  rcases h with rfl | ⟨p, rfl, h1, hp⟩
  · exact .f
  · exact .m ((mup_ne h1).trans hp)
theorem LV.len {μ : Mu} {s : Addr} {v : D} {xs : List D} (h : LV μ s v xs) {Q : QE} (q : Q (.int xs.length) μ) : len1 [v] μ Q := by
  rcases h with rfl | ⟨p, rfl, _, hp⟩
  · exact x_lenL q
  · exact x_lenM hp q
theorem vl_non : Vl .non := ⟨.atm (.inr (.inr (.inr rfl))), sh_no fun s e => by cases e⟩
theorem nmS_len {w : Str} (h : nmS w) : 0 < w.length ∧ w.length ≤ 12 := by
  have := nmL_len (l := w.cps.toList) h
  rw [Array.length_toList] at this
  exact this
theorem vl_str {w : Str} (h : w.length ≤ 1000) : Vl (.str w) := ⟨pl_str, sh_str h⟩
theorem nmS_vl {w : Str} (h : nmS w) : Vl (.str w) := vl_str (by have := nmS_len h; omega)
theorem nmD_str {d : D} (h : nmD d = true) : ∃ l, d = .str ⟨⟨l⟩⟩ ∧ nmL l = true := by
  cases d with
  | str w => exact ⟨w.cps.toList, rfl, h⟩
  | _ => cases h

/-! ### houses drawn -/
theorem TellN.any {n : Nat} {s : Addr} {μ : Mu} {Q : QE} (h : ∀ (k : Nat) (ys : List Str) (m' : MO), k ≤ n → IsSt m' → Nms k ys → NewL (ys.map D.str) (mup μ s m') Q) {k : Nat} (hk : k ≤ n) : TellN k s μ Q := fun ys m' hm hn => h k ys m' hk hm hn
theorem newL_of {xs : List D} {μ : Mu} {Q : QE} (h : NewL xs μ Q) : NewL xs μ (Upd Q) := by
  rcases h with h | h
  · exact .inl (.of h)
  · exact .inr fun p hp => .of (h p hp)
/-! ### rows -/
def Row (n : Nat) (xs : List D) : Prop := xs.length ≤ n ∧ ∀ x ∈ xs, Vl x
theorem Nms.row {k n : Nat} {ys : List Str} (h : Nms k ys) (hk : k ≤ n) : Row n (ys.map D.str) := ⟨by rw [List.length_map, h.1]; exact hk, fun x hx => by
  obtain ⟨y, hy, rfl⟩ := List.mem_map.mp hx
  exact nmS_vl (h.2.1 y hy)⟩
theorem cutD_mem {x : D} {xs : List D} {lo hi : Option Int} (h : x ∈ J.cutD xs lo hi) : x ∈ xs := by
  unfold J.cutD at h
  exact List.mem_of_mem_drop (List.mem_of_mem_take h)
theorem cutD_len (xs : List D) (lo hi : Option Int) : (J.cutD xs lo hi).length ≤ xs.length := by
  unfold J.cutD
  rw [List.length_take, List.length_drop]
  omega
theorem Row.cut {n : Nat} {xs : List D} (h : Row n xs) (lo hi : Option Int) : Row n (J.cutD xs lo hi) := ⟨Nat.le_trans (cutD_len xs lo hi) h.1, fun x hx => h.2 x (cutD_mem hx)⟩
/-- the two parts of a row cut at a place -/
theorem cut_sum (xs : List D) (a : Int) : (J.cutD xs none (some a)).length + (J.cutD xs (some a) none).length ≤ xs.length := by
  unfold J.cutD
  rw [List.length_take, List.length_drop, List.length_take, List.length_drop]
  have e1 : HT.sIx xs.length 0 none = 0 := rfl
  have e2 : HT.sIx xs.length xs.length none = xs.length := rfl
  have e3 : HT.sIx xs.length xs.length (some a) = HT.sIx xs.length 0 (some a) := rfl
  rw [e1, e2, e3]
  omega
theorem cut_sum1 (xs : List D) {a : Int} (ha : 0 ≤ a) : (J.cutD xs none (some a)).length + (J.cutD xs (some (a + 1)) none).length ≤ xs.length := by
  unfold J.cutD
  rw [List.length_take, List.length_drop, List.length_take, List.length_drop]
  have e1 : HT.sIx xs.length 0 none = 0 := rfl
  have e2 : HT.sIx xs.length xs.length none = xs.length := rfl
  have e3 : HT.sIx xs.length xs.length (some a) ≤ HT.sIx xs.length 0 (some (a + 1)) := by
    obtain ⟨k, rfl⟩ : ∃ k : Nat, a = k := ⟨a.toNat, by omega⟩
    unfold HT.sIx
    simp only
    split <;> split <;> omega
  rw [e1, e2]
  omega
theorem Row.ins {n : Nat} {xs : List D} {v : D} (h : Row n xs) (hv : Vl v) (a : Int) : Row (n + 1) (J.cutD xs none (some a) ++ [v] ++ J.cutD xs (some a) none) := by
  have := cut_sum xs a
  have h1 := h.1
  refine ⟨by rw [List.length_append, List.length_append]; simp only [List.length_cons, List.length_nil]; omega, fun x hx => ?_⟩
  rcases List.mem_append.mp hx with hx | hx
  · rcases List.mem_append.mp hx with hx | hx
    · exact h.2 x (cutD_mem hx)
    · have e : x = v := by simpa using hx
      subst e
      exact hv
  · exact h.2 x (cutD_mem hx)
theorem Row.del {n : Nat} {xs : List D} (h : Row n xs) {a : Int} (ha : 0 ≤ a) : Row n (J.cutD xs none (some a) ++ J.cutD xs (some (a + 1)) none) := by
  have := cut_sum1 xs ha
  have h1 := h.1
  refine ⟨by rw [List.length_append]; omega, fun x hx => ?_⟩
  rcases List.mem_append.mp hx with hx | hx
  · exact h.2 x (cutD_mem hx)
  · exact h.2 x (cutD_mem hx)

/-! ### what is due -/
inductive Du where
  | ok | bad (x : D) | taken (x : D) | many
def due : List Str → List D → Du
  | _, [] => .ok
  | seen, x :: r => if nmD x = true then (match x with
    | .str t => if t ∈ seen then .taken x else if 32 ≤ seen.length then .many else due (seen ++ [t]) r
    | _ => .bad x) else .bad x
def duD : Du → D
  | .ok => .non
  | .bad x => .tup [.str "BadName", x]
  | .taken x => .tup [.str "Taken", x]
  | .many => .tup [.str "TooMany", .int 32]
theorem due_eq (seen : List Str) (x : D) (r : List D) : due seen (x :: r) = if nmD x = true then (match x with
    | .str t => if t ∈ seen then .taken x else if 32 ≤ seen.length then .many else due (seen ++ [t]) r
    | _ => .bad x) else .bad x := rfl
theorem due_bad {seen : List Str} {x : D} {r : List D} (h : nmD x = false) : due seen (x :: r) = .bad x := by
  rw [due_eq, if_neg (by rw [h]; exact Bool.false_ne_true)]
theorem due_str {seen : List Str} {t : Str} {r : List D} (h : nmD (.str t) = true) : due seen (.str t :: r) = if t ∈ seen then .taken (.str t) else if 32 ≤ seen.length then .many else due (seen ++ [t]) r := by
  rw [due_eq, if_pos h]
/-- what is due names a value of the row -/
theorem due_mem : ∀ {seen : List Str} {xs : List D}, (due seen xs = .ok) ∨ (∃ x ∈ xs, due seen xs = .bad x ∨ due seen xs = .taken x) ∨ due seen xs = .many
  | _, [] => .inl rfl
  | seen, x :: r => by
    cases h : nmD x with
    | false => exact .inr (.inl ⟨x, List.mem_cons_self .., .inl (due_bad h)⟩)
    | true =>
      obtain ⟨l, rfl, _⟩ := nmD_str h
      rw [due_str h]
      split
      · exact .inr (.inl ⟨_, List.mem_cons_self .., .inr rfl⟩)
      · split
        · exact .inr (.inr rfl)
        · rcases due_mem (seen := seen ++ [⟨⟨l⟩⟩]) (xs := r) with h | ⟨x, hx, h⟩ | h
          · exact .inl h
          · exact .inr (.inl ⟨x, List.mem_cons_of_mem _ hx, h⟩)
          · exact .inr (.inr h)
/-- nothing due: different texts -/
theorem due_ok : ∀ {seen : List Str} {xs : List D}, due seen xs = .ok → seen.Nodup → seen.length ≤ 32 → ∃ ss : List Str, xs = ss.map D.str ∧ (seen ++ ss).Nodup ∧ (seen ++ ss).length ≤ 32
  | seen, [], _, h1, h2 => ⟨[], rfl, by rw [List.append_nil]; exact h1, by rw [List.append_nil]; exact h2⟩
  | seen, x :: r, h, h1, h2 => by
    cases hn : nmD x with
    | false =>
      rw [due_bad hn] at h
      cases h
    | true =>
      obtain ⟨l, rfl, _⟩ := nmD_str hn
      rw [due_str hn] at h
      split at h
      · cases h
      · rename_i hni
        split at h
        · cases h
        · obtain ⟨ss, e1, e2, e3⟩ := due_ok h (List.nodup_append.mpr ⟨h1, by simp, fun a ha b hb => by
            have e : b = ⟨⟨l⟩⟩ := by simpa using hb
            subst e
            exact fun e => hni (e ▸ ha)⟩) (by rw [List.length_append]; simp; omega)
          refine ⟨⟨⟨l⟩⟩ :: ss, by rw [e1]; rfl, ?_, ?_⟩
          · rw [List.append_assoc] at e2
            exact e2
          · rw [List.append_assoc] at e3
            exact e3
theorem any_isS {t : Str} {ss : List Str} : (ss.map D.str).any (isS t) = decide (t ∈ ss) := by
  induction ss with
  | nil => rfl
  | cons s r ih =>
    rw [List.map_cons, List.any_cons, ih]
    show ((s == t) || _) = _
    by_cases h : s = t
    · subst h
      simp
    · have : t ≠ s := fun e => h e.symm
      simp [h, this]
theorem all_any_str {ss : List Str} : (ss.map D.str).all D.any = true := List.all_eq_true.mpr fun x hx => by
  obtain ⟨s, _, rfl⟩ := List.mem_map.mp hx
  rfl

/-! ### check_houses -/
def LRT (μ : Mu) (v : D) (xs : List D) : Prop := v = .lst xs ∨ v = .tup xs
/-- the texts of xs, put in order -/
def Srt (xs : List D) (ys : List Str) : Prop := ∃ ss : List Str, xs = ss.map D.str ∧ ys.Perm ss ∧ ys.Nodup ∧ ys.length ≤ 32 ∧ ys.Pairwise leS
def duX (d : Du) (ex : Ex2) (μ : Mu) : Prop := match d with
  | .ok => True
  | .bad x => ex "BadName" [("word", x), ("code", .str "BadName")] μ
  | .taken x => ex "Taken" [("word", x), ("code", .str "Taken")] μ
  | .many => ex "TooMany" [("bound", .int 32), ("code", .str "TooMany")] μ
def sp_check_houses : Sp2 := fun ds μ Q ex => ∃ (v : D) (xs : List D), ds = [v] ∧ LT v xs ∧ Row 1000 xs ∧ (due [] xs = .ok → ∀ ys, Srt xs ys → NewL (ys.map D.str) μ Q) ∧ ∀ μ', Le μ μ' → duX (due [] xs) ex μ'
theorem len_check_houses (ds : List D) (μ : Mu) (Q : QE) (ex : Ex2) (h : sp_check_houses ds μ Q ex) : ds.length = 1 := by
  obtain ⟨v, xs, rfl, _⟩ := h
  rfl
def kB (seen : List Str) : List (Key × D) := seen.map fun t => (ks t, .bl true)
theorem kB_val {seen : List Str} {t : Str} : (valD (kB seen) (ks t)).isSome = decide (t ∈ seen) := by
  induction seen with
  | nil => rfl
  | cons s r ih =>
    by_cases h : s = t
    · subst h
      rw [kB, List.map_cons, valD_pos rfl]
      simp
    · have hne : (ks s) ≠ ks t := fun e => h (Sum.inr.inj e)
      have e : valD (kB (s :: r)) (ks t) = valD (kB r) (ks t) := by
        simp [kB, valD, List.find?_cons, hne]
      rw [e, ih]
      have : t ≠ s := fun e => h e.symm
      simp [this]
theorem kB_put {seen : List Str} {t : Str} (h : t ∉ seen) : putKD (kB seen) (ks t) (.bl true) = kB (seen ++ [t]) := by
  have hn : valD (kB seen) (ks t) = none := by
    have := kB_val (seen := seen) (t := t)
    rw [decide_eq_false h] at this
    simpa using this
  rw [keys_put_new hn]
  simp [kB]
theorem lt_walk {v : D} {xs : List D} {μ : Mu} {R : List D → (Mu → Prop) → Mu → Prop} (hv : LT v xs) (h : R xs (fun _ => True) μ) : iSeq' v μ R ∨ ∃ xs, v = .tup xs ∧ R xs (fun _ => True) μ := by
  rcases hv with rfl | rfl
  · exact .inl h
  · exact .inr ⟨xs, rfl, h⟩
theorem newL_drop {xs : List D} {μ : Mu} {p : Addr} {o : MO} {Q : QE} (hp : μ p = none) (h : NewL xs μ Q) : NewL xs (mup μ p o) (Upd Q) := by
  rcases h with h | h
  · exact .inl (.drop (le_fresh hp) h)
  · refine .inr fun p2 hp2 => ?_
    have h2 : p2 ≠ p := fun e => by rw [e, mup_same] at hp2; cases hp2
    rw [mup_ne h2] at hp2
    refine .drop (μ' := mup μ p2 (.lst xs)) ?_ (h p2 hp2)
    rw [mup_comm h2.symm]
    exact le_fresh ((mup_ne h2.symm).trans hp)
theorem pure_check_houses (ds : List D) (μ : Mu) (Q : QE) (ex : Ex2) (h : sp_check_houses ds μ Q ex) : t_check_houses sp_check_name (fun _ => ex) (ends Q) (startD ["a", "b", "c"] ds) μ := by
  obtain ⟨v, xs, rfl, hv, hr, q1, q2⟩ := h
  unfold t_check_houses
  show jSeq _ _ (ends Q) [some _, none, none] μ
  have hsz := sizeLine_eq
  have hxl := hr.1
  walk_at "js"
  refine .m fun p hp => ?_
  have q2 := fun kvs => q2 _ (le_fresh (o := .dct kvs) hp)
  walk_at "js"
  refine x_iLT ?_
  walk_at "js"
  refine lt_walk hv ?_
  refine loop_inv (fun r δ μ' => ∃ (seen : List Str) (o : Option D), due [] xs = due seen r ∧ seen.length ≤ 32 ∧ seen.Nodup ∧ xs = seen.map D.str ++ r ∧ μ' = mup μ p (.dct (kB seen)) ∧ δ = [some v, some (.ref p), o]) (fun _ _ _ _ => trivial) ?_ ?_ _ _ _ ⟨[], none, rfl, by simp, by simp, rfl, rfl, rfl⟩
  · rintro x r δ μ' ⟨seen, o, he, hl, hnd, hxs, rfl, rfl⟩ QN hN
    have hvl : Vl x := hr.2 x (by rw [hxs]; simp)
    obtain ⟨t, ht⟩ := hvl.1.ty
    have q2 := q2 (kB seen)
    rw [he] at q2
    walk_at "js"
    refine ⟨x, t, rfl, ht _, hvl.2, fun hn => .of ?_, fun hn => ?_⟩
    · obtain ⟨l, rfl, _⟩ := nmD_str hn
      rw [due_str hn] at he q2
      walk_at "js"
      refine x_inK (.m mup_same) (k := ks ⟨⟨l⟩⟩) rfl ?_
      rw [kB_val]
      refine ⟨_, rfl, w_ifd (fun h => ?_) (fun h => ?_)⟩
      · rw [if_pos h] at q2
        walk_at "js"
        exact ⟨rfl, .of q2⟩
      · rw [if_neg h] at he q2
        walk_at "js"
        have hkl : (kB seen).length = seen.length := by simp [kB]
        refine .inr ⟨_, mup_same, ?_⟩
        walk_at "js"
        rw [hkl]
        refine w_ifd (fun h2 => ?_) (fun h2 => ?_)
        · rw [if_pos (by omega)] at q2
          walk_at "js"
          exact ⟨rfl, .of q2⟩
        · rw [if_neg (by omega)] at he q2
          walk_at "js"
          refine x_setD mup_same (kk := ks ⟨⟨l⟩⟩) rfl (by omega) ?_
          rw [mup_mup, kB_put h]
          refine hN _ _ ⟨seen ++ [⟨⟨l⟩⟩], _, he, by rw [List.length_append]; simp; omega, List.nodup_append.mpr ⟨hnd, by simp, fun a ha b hb => ?_⟩, by rw [hxs]; simp, rfl, rfl⟩
          have e : b = ⟨⟨l⟩⟩ := by simpa using hb
          subst e
          exact fun e => h (e ▸ ha)
    · rw [due_bad hn] at q2
      exact q2
  · rintro δ μ' ⟨seen, o, he, hl, hnd, hxs, rfl, rfl⟩
    rw [List.append_nil] at hxs
    walk_at "js"
    refine x_sortedD (.m mup_same) (ss := seen) (by simp [kB, ks]) fun ys h1 h2 => ?_
    exact newL_drop hp (q1 he ys ⟨seen, hxs, h1, h1.nodup_iff.mpr hnd, by rw [h1.length_eq]; exact hl, h2⟩)

/-! ### an error told -/
def eqS (c : Str) : D → D
  | .str s => .bl (decide (s = c))
  | d => d

/-! ### what is due: the error's class, its field and the value -/
abbrev Er := Option (Str × Str × D)
def erX (e : Er) (ex : Ex2) (μ : Mu) : Prop := match e with
  | none => True
  | some (C, f, x) => ex C [(f, x), ("code", .str C)] μ
def badE (x : D) : Er := some ("BadName", "word", x)
def noHouseE (x : D) : Er := some ("NoHouse", "word", x)
def selfE (x : D) : Er := some ("SelfLine", "word", x)
def takenE (x : D) : Er := some ("Taken", "word", x)
def manyE (n : Int) : Er := some ("TooMany", "bound", .int n)
def duE : Du → Er
  | .ok => none
  | .bad x => badE x
  | .taken x => takenE x
  | .many => manyE 32
theorem duX_of {d : Du} {ex : Ex2} {μ : Mu} (h : erX (duE d) ex μ) : duX d ex μ := by
  cases d <;> exact h
def strOf : D → Str
  | .str s => s
  | _ => ⟨#[]⟩
def duePutS (hs ns : List Str) (l a b : Str) : Er := if a ∈ hs then if b ∈ hs then if a = b then selfE (.str l) else if l ∈ ns then takenE (.str l) else if 96 ≤ ns.length then manyE 96 else none else noHouseE (.str b) else noHouseE (.str a)
def duePut (hs ns : List Str) (l a b : D) : Er := if nmD l = true then if nmD a = true then if nmD b = true then duePutS hs ns (strOf l) (strOf a) (strOf b) else badE b else badE a else badE l
theorem duePut_str {hs ns : List Str} {l a b : Str} (hl : nmD (.str l) = true) (ha : nmD (.str a) = true) (hb : nmD (.str b) = true) : duePut hs ns (.str l) (.str a) (.str b) = duePutS hs ns l a b := by
  unfold duePut
  rw [if_pos hl, if_pos ha, if_pos hb]
  rfl
theorem nf {v : D} (h : nmD v = false) : ¬ nmD v = true := by rw [h]; exact Bool.false_ne_true
/-- by what the names are alone -/
theorem duePut_congr {hs hs' ns ns' : List Str} {l a b : D} (h : ∀ t, t ∈ hs ↔ t ∈ hs') (h2 : ns'.Perm ns) : duePut hs ns l a b = duePut hs' ns' l a b := by
  have h3 : ∀ t, t ∈ ns ↔ t ∈ ns' := fun t => h2.symm.mem_iff
  unfold duePut duePutS
  simp only [h, h3, h2.length_eq]
/-- a dict whose keys are these texts -/
def Kys (μ : Mu) (v : D) (ns : List Str) : Prop := ∃ kvs : List (Key × D), DctAt μ v kvs ∧ kvs.map (·.1) = ns.map ks
theorem kys_val : ∀ {kvs : List (Key × D)} {ns : List Str}, kvs.map (·.1) = ns.map ks → ∀ t, (valD kvs (ks t)).isSome = decide (t ∈ ns)
  | [], [], _, t => by simp [valD]
  | [], s :: r, h, t => by cases h
  | kv :: r, [], h, t => by cases h
  | kv :: r, s :: ns, h, t => by
    rw [List.map_cons, List.map_cons] at h
    injection h with h1 h2
    by_cases e : s = t
    · subst e
      rw [valD_pos h1]
      simp
    · have hne : ¬ kv.1 = ks t := by rw [h1]; exact fun z => e (Sum.inr.inj z)
      rw [valD_neg hne, kys_val h2]
      have : t ≠ s := fun z => e z.symm
      simp [this]
/-! ### check_new_line -/
def sp_check_new_line : Sp2 := fun ds μ Q ex => ∃ (l a b H P : D) (hs ns : List Str), ds = [l, a, b, H, P] ∧ Kys μ H hs ∧ Kys μ P ns ∧ Vl l ∧ Vl a ∧ Vl b ∧ (duePut hs ns l a b = none → Q .non μ) ∧ erX (duePut hs ns l a b) ex μ
theorem len_check_new_line (ds : List D) (μ : Mu) (Q : QE) (ex : Ex2) (h : sp_check_new_line ds μ Q ex) : ds.length = 5 := by
  obtain ⟨l, a, b, H, P, hs, ns, rfl, _⟩ := h
  rfl
theorem pure_check_new_line (ds : List D) (μ : Mu) (Q : QE) (ex : Ex2) (h : sp_check_new_line ds μ Q ex) : t_check_new_line sp_check_name (fun _ => ex) (ends Q) (startD ["a", "b", "c", "d", "e"] ds) μ := by
  obtain ⟨l, a, b, H, P, hs, ns, rfl, ⟨kh, hH, eH⟩, ⟨kp, hP, eP⟩, hl, ha, hb, q1, q2⟩ := h
  obtain ⟨tl, htl⟩ := hl.1.ty
  obtain ⟨ta, hta⟩ := ha.1.ty
  obtain ⟨tb, htb⟩ := hb.1.ty
  unfold t_check_new_line
  show jSeq _ _ (ends Q) [some _, some _, some _, some _, some _] μ
  walk_at "js"
  refine ⟨l, tl, rfl, htl _, hl.2, fun hnl => .of ?_, fun hn => ?_⟩
  rotate_left
  · rw [duePut, if_neg (nf hn)] at q2
    exact q2
  walk_at "js"
  refine ⟨a, ta, rfl, hta _, ha.2, fun hna => .of ?_, fun hn => ?_⟩
  rotate_left
  · rw [duePut, if_pos hnl, if_neg (nf hn)] at q2
    exact q2
  walk_at "js"
  refine ⟨b, tb, rfl, htb _, hb.2, fun hnb => .of ?_, fun hn => ?_⟩
  rotate_left
  · rw [duePut, if_pos hnl, if_pos hna, if_neg (nf hn)] at q2
    exact q2
  obtain ⟨l, rfl, _⟩ := nmD_str hnl
  obtain ⟨a, rfl, _⟩ := nmD_str hna
  obtain ⟨b, rfl, _⟩ := nmD_str hnb
  rw [duePut_str hnl hna hnb] at q1 q2
  clear htl hta htb hl ha hb hnl hna hnb
  generalize (⟨⟨l⟩⟩ : Str) = l at q1 q2 ⊢
  generalize (⟨⟨a⟩⟩ : Str) = a at q1 q2 ⊢
  generalize (⟨⟨b⟩⟩ : Str) = b at q1 q2 ⊢
  unfold duePutS at q1 q2
  walk_at "js"
  refine x_ninK hH (k := ks a) rfl ?_
  rw [kys_val eH]
  refine ⟨_, rfl, w_ifn (fun h => ?_) (fun h => ?_)⟩
  · rw [if_neg h] at q2
    walk_at "js"
    exact ⟨rfl, .of q2⟩
  rw [if_pos h] at q1 q2
  walk_at "js"
  refine x_ninK hH (k := ks b) rfl ?_
  rw [kys_val eH]
  refine ⟨_, rfl, w_ifn (fun h => ?_) (fun h => ?_)⟩
  · rw [if_neg h] at q2
    walk_at "js"
    exact ⟨rfl, .of q2⟩
  rw [if_pos h] at q1 q2
  walk_at "js"
  refine w_ifd (fun h => ?_) (fun h => ?_)
  · rw [if_pos h] at q2
    walk_at "js"
    exact ⟨rfl, .of q2⟩
  rw [if_neg h] at q1 q2
  walk_at "js"
  refine x_inK hP (k := ks l) rfl ?_
  rw [kys_val eP]
  refine ⟨_, rfl, w_ifd (fun h => ?_) (fun h => ?_)⟩
  · rw [if_pos h] at q2
    walk_at "js"
    exact ⟨rfl, .of q2⟩
  rw [if_neg h] at q1 q2
  walk_at "js"
  refine x_lenDA hP ?_
  walk_at "js"
  have e : kp.length = ns.length := by
    have := congrArg List.length eP
    simpa using this
  rw [e]
  refine w_ifd (fun h => ?_) (fun h => ?_)
  · rw [if_pos (by omega)] at q2
    walk_at "js"
    exact ⟨rfl, .of q2⟩
  · rw [if_neg (by omega)] at q1
    walk_at "js"
    exact .of (q1 rfl)

/-! ### lines -/
abbrev Ln := Str × Str × Str
def lnD (l : Ln) : D := .tup [.str l.1, .str l.2.1, .str l.2.2]
def prD (l : Ln) : Key × D := (ks l.1, .tup [.str l.2.1, .str l.2.2])
def leN (a b : Ln) : Prop := leS a.1 b.1
theorem perm_lift {α β : Type} {f : α → β} {ys ws : List β} (h : ys.Perm ws) : ∀ {xs : List α}, ws = xs.map f → ∃ zs : List α, zs.Perm xs ∧ zs.map f = ys := by
  induction h with
  | nil =>
    intro xs e
    cases xs with
    | nil => exact ⟨[], .refl _, rfl⟩
    | cons x xs => cases e
  | cons y h ih =>
    intro xs e
    cases xs with
    | nil => cases e
    | cons x xs =>
      rw [List.map_cons] at e
      injection e with e1 e2
      obtain ⟨zs, p, q⟩ := ih e2
      exact ⟨x :: zs, p.cons x, by rw [List.map_cons, q, e1]⟩
  | swap a b t =>
    intro xs e
    match xs, e with
    | x :: y :: xs, e =>
      rw [List.map_cons, List.map_cons] at e
      injection e with e1 e2
      injection e2 with e2 e3
      exact ⟨y :: x :: xs, .swap .., by rw [List.map_cons, List.map_cons, e1, e2, e3]⟩
  | trans h1 h2 ih1 ih2 =>
    intro xs e
    obtain ⟨zs, p, q⟩ := ih2 e
    obtain ⟨us, p2, q2⟩ := ih1 q.symm
    exact ⟨us, p2.trans p, q2⟩
theorem prD_keys (ps : List Ln) : (ps.map prD).map (·.1) = (ps.map (·.1)).map ks := by
  rw [List.map_map, List.map_map]
  rfl
theorem prD_val : ∀ {ps : List Ln} {z : Ln}, (ps.map (·.1)).Nodup → z ∈ ps → valD (ps.map prD) (ks z.1) = some (.tup [.str z.2.1, .str z.2.2])
  | p :: r, z, hn, hz => by
    rw [List.map_cons, List.nodup_cons] at hn
    rw [List.map_cons]
    rcases List.mem_cons.mp hz with rfl | hz
    · exact valD_pos rfl
    · have hne : ¬ (prD p).1 = ks z.1 := fun e => hn.1 (by
        have e : p.1 = z.1 := Sum.inr.inj e
        rw [e]
        exact List.mem_map.mpr ⟨z, hz, rfl⟩)
      rw [valD_neg hne]
      exact prD_val hn.2 hz
def sp_line_tuples : Sp2 := fun ds μ Q _ => ∃ (v : D) (ps : List Ln), ds = [v] ∧ DctAt μ v (ps.map prD) ∧ (ps.map (·.1)).Nodup ∧ ps.length ≤ 1000 ∧ ∀ zs : List Ln, zs.Perm ps → zs.Pairwise leN → Q (.tup (zs.map lnD)) μ
theorem len_line_tuples (ds : List D) (μ : Mu) (Q : QE) (ex : Ex2) (h : sp_line_tuples ds μ Q ex) : ds.length = 1 := by
  obtain ⟨v, ps, rfl, _⟩ := h
  rfl
theorem pure_line_tuples (ds : List D) (μ : Mu) (Q : QE) (ex : Ex2) (h : sp_line_tuples ds μ Q ex) : t_line_tuples (ends Q) (startD ["a", "b"] ds) μ := by
  obtain ⟨v, ps, rfl, hv, hn, hl, q⟩ := h
  have hsz := sizeLine_eq
  unfold t_line_tuples
  show jRet _ (ends Q) [some _, none] μ
  walk_at "js"
  refine x_sortedD hv (show (ps.map prD).map (·.1) = (ps.map (·.1)).map Sum.inr from prD_keys ps) fun ys h1 h2 => ?_
  obtain ⟨zs, hz, rfl⟩ := perm_lift h1 rfl
  have hs := List.pairwise_map.mp h2
  rw [List.map_map]
  refine .f ?_
  walk_at "js"
  refine lc_mapZ zs _ lnD (by rw [hz.length_eq]; omega) (fun z hz' Y hy => ?_) (.f ?_)
  · have hv2 := prD_val hn (hz.subset hz')
    show kName 1 (.str z.1) _ _ _
    walk_at "js"
    refine x_ixDA hv (kk := ks z.1) rfl hv2 ?_
    walk_at "js"
    refine x_ixDA hv (kk := ks z.1) rfl hv2 ?_
    walk_at "js"
    exact hy
  · walk_at "js"
    exact .of (q zs hz hs)
/-! ### lines by house -/
def near (zs : List Ln) (h : Str) : List D := (zs.filter fun z => decide (z.2.1 = h) || decide (z.2.2 = h)).map fun z => D.str z.1
def nearD (hs : List Str) (zs : List Ln) : List (Key × D) := hs.map fun h => (ks h, .lst (near zs h))
theorem near_app {zs : List Ln} {z : Ln} {h : Str} : near (zs ++ [z]) h = near zs h ++ if z.2.1 = h ∨ z.2.2 = h then [.str z.1] else [] := by
  unfold near
  rw [List.filter_append, List.map_append]
  by_cases e : z.2.1 = h ∨ z.2.2 = h
  · have : (decide (z.2.1 = h) || decide (z.2.2 = h)) = true := by simpa using e
    rw [if_pos e]
    simp [this]
  · have : (decide (z.2.1 = h) || decide (z.2.2 = h)) = false := by simpa using e
    rw [if_neg e]
    simp [this]
theorem near_len (zs : List Ln) (h : Str) : (near zs h).length ≤ zs.length := by
  unfold near
  rw [List.length_map]
  exact List.length_filter_le ..
def sp_lines_by_house_webs : Sp2 := fun ds μ Q _ => ∃ (hs : List Str) (zs : List Ln), ds = [.tup (hs.map D.str), .tup (zs.map lnD)] ∧ hs.Nodup ∧ hs.length ≤ 1000 ∧ zs.length ≤ 1000 ∧ (∀ z ∈ zs, z.2.1 ∈ hs ∧ z.2.2 ∈ hs ∧ z.2.1 ≠ z.2.2) ∧ Q (.dct (nearD hs zs)) μ
theorem len_lines_by_house_webs (ds : List D) (μ : Mu) (Q : QE) (ex : Ex2) (h : sp_lines_by_house_webs ds μ Q ex) : ds.length = 2 := by
  obtain ⟨hs, zs, rfl, _⟩ := h
  rfl
/-- the lists of a table, each at its own place -/
structure Tab (μ : Mu) (f : Str → List D) (as : List (Str × Addr)) (μ' : Mu) : Prop where
  le : Le μ μ'
  nd : (as.map (·.2)).Nodup
  fresh : ∀ a ∈ as, μ a.2 = none
  at_ : ∀ a ∈ as, μ' a.2 = some (.lst (f a.1))
theorem tab_new {μ μ' : Mu} {f : Str → List D} {as : List (Str × Addr)} {h : Str} {p : Addr} (t : Tab μ f as μ') (hp : μ' p = none) : Tab μ f (as ++ [(h, p)]) (mup μ' p (.lst (f h))) := by
  have hm : ∀ a ∈ as, a.2 ≠ p := fun a ha e => by
    have := t.at_ a ha
    rw [e, hp] at this
    cases this
  refine ⟨fun b o e => ?_, ?_, ?_, ?_⟩
  · have e2 := t.le b o e
    have : b ≠ p := fun z => by rw [z, hp] at e2; cases e2
    rw [mup_ne this]
    exact e2
  · rw [List.map_append]
    refine List.nodup_append.mpr ⟨t.nd, by simp, fun a ha b hb => ?_⟩
    have e : b = p := by simpa using hb
    subst e
    obtain ⟨c, hc, rfl⟩ := List.mem_map.mp ha
    exact hm c hc
  · intro a ha
    rcases List.mem_append.mp ha with ha | ha
    · exact t.fresh a ha
    · have e : a = (h, p) := by simpa using ha
      subst e
      cases e2 : μ p with
      | none => rfl
      | some u => rw [t.le _ _ e2] at hp; cases hp
  · intro a ha
    rcases List.mem_append.mp ha with ha | ha
    · rw [mup_ne (hm a ha)]
      exact t.at_ a ha
    · have e : a = (h, p) := by simpa using ha
      subst e
      exact mup_same
/-- one list of the table is made longer -/
theorem tab_put {μ μ' : Mu} {f g : Str → List D} {as : List (Str × Addr)} {h : Str} {p : Addr} (t : Tab μ f as μ') (hp : (h, p) ∈ as) (hn : (as.map (·.1)).Nodup) (hg : ∀ x, x ≠ h → g x = f x) : Tab μ g as (mup μ' p (.lst (g h))) := by
  refine ⟨fun b o e => ?_, t.nd, t.fresh, fun a ha => ?_⟩
  · have : b ≠ p := fun z => by rw [z, t.fresh _ hp] at e; cases e
    rw [mup_ne this]
    exact t.le b o e
  · by_cases e : a.2 = p
    · have : a.1 = h := by
        obtain ⟨i, hi, e1⟩ := List.getElem_of_mem ha
        obtain ⟨j, hj, e2⟩ := List.getElem_of_mem hp
        have h1 : (as.map (·.2))[i]? = (as.map (·.2))[j]? := by
          rw [List.getElem?_map, List.getElem?_map, List.getElem?_eq_getElem hi, List.getElem?_eq_getElem hj, e1, e2]
          exact congrArg some e
        have := (List.getElem?_inj (by rw [List.length_map]; exact hi) t.nd).mp h1
        subst this
        rw [e1] at e2
        rw [e2]
      rw [e, this, mup_same]
    · rw [mup_ne e, hg]
      · exact t.at_ a ha
      · intro e2
        apply e
        obtain ⟨i, hi, e1⟩ := List.getElem_of_mem ha
        obtain ⟨j, hj, e3⟩ := List.getElem_of_mem hp
        have h1 : (as.map (·.1))[i]? = (as.map (·.1))[j]? := by
          rw [List.getElem?_map, List.getElem?_map, List.getElem?_eq_getElem hi, List.getElem?_eq_getElem hj, e1, e3]
          exact congrArg some e2
        have := (List.getElem?_inj (by rw [List.length_map]; exact hi) hn).mp h1
        subst this
        rw [e1] at e3
        rw [e3]
def refs (as : List (Str × Addr)) : List (Key × D) := as.map fun a => (ks a.1, .ref a.2)
theorem refs_keys (as : List (Str × Addr)) : (refs as).map (·.1) = (as.map (·.1)).map ks := by
  unfold refs
  rw [List.map_map, List.map_map]
  rfl
theorem refs_val : ∀ {as : List (Str × Addr)} {h : Str} {p : Addr}, (as.map (·.1)).Nodup → (h, p) ∈ as → valD (refs as) (ks h) = some (.ref p)
  | a :: r, h, p, hn, hz => by
    rw [List.map_cons, List.nodup_cons] at hn
    unfold refs
    rw [List.map_cons]
    rcases List.mem_cons.mp hz with rfl | hz
    · exact valD_pos rfl
    · have hne : ¬ ((ks a.1, D.ref a.2) : Key × D).1 = ks h := fun e => hn.1 (by
        have e : a.1 = h := Sum.inr.inj e
        rw [e]
        exact List.mem_map.mpr ⟨_, hz, rfl⟩)
      rw [valD_neg hne]
      exact refs_val hn.2 hz
theorem tab_T {μ μ' : Mu} {f : Str → List D} {as : List (Str × Addr)} {T : Addr} {o : MO} (t : Tab μ f as μ') (hT : μ' T = none) : Tab μ f as (mup μ' T o) := by
  refine ⟨fun b u e => ?_, t.nd, t.fresh, fun a ha => ?_⟩
  · have e2 := t.le b u e
    have : b ≠ T := fun z => by rw [z, hT] at e2; cases e2
    rw [mup_ne this]
    exact e2
  · have e2 := t.at_ a ha
    have : a.2 ≠ T := fun z => by rw [z, hT] at e2; cases e2
    rw [mup_ne this]
    exact e2
theorem tab_end {μ μ' : Mu} {zs : List Ln} {hs : List Str} {as : List (Str × Addr)} {T : Addr} {Q : QE} (t : Tab μ (near zs) as μ') (ha : as.map (·.1) = hs) (hT : μ' T = some (.dct (refs as))) (hT0 : μ T = none) (q : Q (.dct (nearD hs zs)) μ) : Upd Q (.ref T) μ' := by
  have e2 : (as.map fun a => (ks a.1, a.2, near zs a.1)).map (fun k => (k.1, D.lst k.2.2)) = nearD hs zs := by
    rw [List.map_map, ← ha]
    unfold nearD
    rw [List.map_map]
    rfl
  have e3 : (as.map fun a => (ks a.1, a.2, near zs a.1)).map (fun k => k.2.1) = as.map (·.2) := by
    rw [List.map_map]
    rfl
  refine .join (.dctL (ks := as.map fun a => (ks a.1, a.2, near zs a.1)) (by rw [hT, List.map_map]; rfl) (by rw [e3]; exact t.nd) (fun k hk => ?_) ?_)
  · obtain ⟨a, ha, rfl⟩ := List.mem_map.mp hk
    exact t.at_ a ha
  · rw [e2, e3]
    refine .drop (μ' := μ) (fun b o e => ?_) q
    have hb : b ∉ as.map (·.2) := fun hb => by
      obtain ⟨a, ha, rfl⟩ := List.mem_map.mp hb
      rw [t.fresh a ha] at e
      cases e
    have hbT : b ≠ T := fun z => by rw [z, hT0] at e; cases e
    unfold mdel
    rw [if_neg hbT, mdels_ne hb]
    exact t.le b o e
theorem pure_lines_by_house_webs (ds : List D) (μ : Mu) (Q : QE) (ex : Ex2) (h : sp_lines_by_house_webs ds μ Q ex) : t_lines_by_house_webs (ends Q) (startD ["a", "b", "c", "d", "e", "f", "g"] ds) μ := by
  obtain ⟨hs, zs, rfl, hn, hl, hzl, hz, q⟩ := h
  have hsz := sizeLine_eq
  unfold t_lines_by_house_webs
  show jSeq _ _ (ends Q) [some _, some _, none, none, none, none, none] μ
  walk_at "js"
  refine dc_inv (fun r acc μ' => ∃ (as : List (Str × Addr)) (rs : List Str), hs = as.map (·.1) ++ rs ∧ r = rs.map D.str ∧ acc = refs as ∧ Tab μ (near []) as μ') (fun _ _ _ _ => trivial) ?_ ?_ _ _ _ ⟨[], hs, rfl, rfl, rfl, fun _ _ e => e, by simp, by simp, by simp⟩
  · rintro x r acc μ' ⟨as, rs, h1, h2, rfl, t⟩ N hN
    cases rs with
    | nil => cases h2
    | cons y rs =>
      rw [List.map_cons] at h2
      injection h2 with e1 e2
      subst e1 e2
      have hy : y ∉ as.map (·.1) := fun hy => by
        rw [h1] at hn
        exact (List.nodup_append.mp hn).2.2 y hy y (List.mem_cons_self ..) rfl
      have hal : as.length ≤ hs.length := by
        have := congrArg List.length h1
        rw [List.length_append, List.length_map] at this
        omega
      show kName 6 (.str y) _ _ _
      walk_at "js"
      refine w_true ?_
      walk_at "js"
      refine .m fun p hp => ⟨ks y, rfl, by unfold refs; rw [List.length_map]; omega, ?_⟩
      have hv : valD (refs as) (ks y) = none := by
        have := kys_val (refs_keys as) y
        rw [decide_eq_false hy] at this
        simpa using this
      rw [keys_put_new hv]
      exact hN _ _ ⟨as ++ [(y, p)], rs, by rw [h1, List.map_append]; simp, rfl, by simp [refs], tab_new t hp⟩
  · rintro acc μ' ⟨as, rs, h1, h2, rfl, t⟩
    cases rs with
    | cons y rs => cases h2
    | nil =>
    rw [List.append_nil] at h1
    subst h1
    refine .m fun T hT => ?_
    have hT0 : μ T = none := by
      cases e : μ T with
      | none => rfl
      | some u => rw [t.le _ _ e] at hT; cases hT
    have t := tab_T (o := .dct (refs as)) t hT
    walk_at "js"
    refine loop_inv (fun r δ μ' => ∃ (dn rs : List Ln) (o1 o2 o3 : Option D), zs = dn ++ rs ∧ r = rs.map lnD ∧ Tab μ (near dn) as μ' ∧ μ' T = some (.dct (refs as)) ∧ δ = [some (.tup ((as.map (·.1)).map D.str)), some (.tup (zs.map lnD)), some (.ref T), o1, o2, o3, none]) (fun _ _ _ _ => trivial) ?_ ?_ _ _ _ ⟨[], zs, none, none, none, rfl, rfl, t, mup_same, rfl⟩
    · rintro x r δ μ' ⟨dn, rs, o1, o2, o3, h1, h2, t, hT, rfl⟩ QN hN
      cases rs with
      | nil => cases h2
      | cons z rs =>
        rw [List.map_cons] at h2
        injection h2 with e1 e2
        subst e1 e2
        obtain ⟨z1, z2, z3⟩ := hz z (by rw [h1]; simp)
        obtain ⟨⟨a1, p1⟩, m1, e1⟩ := List.mem_map.mp z1
        obtain ⟨⟨a2, p2⟩, m2, e2⟩ := List.mem_map.mp z2
        have e1 : a1 = z.2.1 := e1
        have e2 : a2 = z.2.2 := e2
        subst e1 e2
        have hdl : dn.length ≤ zs.length := by
          have := congrArg List.length h1
          rw [List.length_append] at this
          omega
        have l1 := near_len dn z.2.1
        have l2 := near_len dn z.2.2
        have w1 : μ' p1 = some (.lst (near dn z.2.1)) := t.at_ _ m1
        obtain ⟨g, g1, g2⟩ : ∃ g : Str → List D, g z.2.1 = near dn z.2.1 ++ [.str z.1] ∧ ∀ x, x ≠ z.2.1 → g x = near dn x := ⟨fun h => if h = z.2.1 then near dn h ++ [.str z.1] else near dn h, if_pos rfl, fun x hx => if_neg hx⟩
        have t1 := tab_put (g := g) t m1 hn g2
        rw [g1] at t1
        have w2 := t1.at_ _ m2
        rw [show ((z.2.2, p2) : Str × Addr).1 = z.2.2 from rfl, g2 _ (Ne.symm z3)] at w2
        have t2 := tab_put (g := near (dn ++ [z])) t1 m2 hn (fun x hx => by
          rw [near_app]
          by_cases e : x = z.2.1
          · rw [if_pos (.inl e.symm), e, g1]
          · rw [if_neg (fun h => h.elim (fun h => e h.symm) (fun h => hx h.symm)), g2 _ e, List.append_nil])
        have e5 : near (dn ++ [z]) z.2.2 = near dn z.2.2 ++ [.str z.1] := by rw [near_app, if_pos (.inr rfl)]
        rw [e5] at t2
        have n1 : T ≠ p1 := fun e => by
          rw [← e, hT] at w1
          cases w1
        have n2 : T ≠ p2 := fun e => by
          have w2 : (mup μ' p1 _) p2 = _ := w2
          rw [← e, mup_ne n1, hT] at w2
          cases w2
        show kTup 3 _ (.tup [.str z.1, .str z.2.1, .str z.2.2]) _ _ _
        walk_at "js"
        refine x_ixDA (.m hT) (kk := ks z.2.1) rfl (refs_val hn m1) ?_
        refine x_tyM w1 ?_
        walk_at "js"
        refine x_append w1 (by omega) ?_
        walk_at "js"
        refine x_ixDA (.m ((mup_ne n1).trans hT)) (kk := ks z.2.2) rfl (refs_val hn m2) ?_
        refine x_tyM w2 ?_
        walk_at "js"
        refine x_append w2 (by omega) ?_
        exact hN _ _ ⟨dn ++ [z], rs, _, _, _, by rw [h1]; simp, rfl, t2, (mup_ne n2).trans ((mup_ne n1).trans hT), rfl⟩
    · rintro δ μ' ⟨dn, rs, o1, o2, o3, h1, h2, t, hT, rfl⟩
      cases rs with
      | cons y rs => cases h2
      | nil =>
      rw [List.append_nil] at h1
      subst h1
      walk_at "js"
      exact tab_end t rfl hT hT0 q

/-! ### lines taken in, one after another -/
abbrev Rw := D × D × D
def mkLn (l a b : D) : Ln := if ltS (strOf b) (strOf a) = true then (strOf l, strOf b, strOf a) else (strOf l, strOf a, strOf b)
def runLs (hs : List Str) : List Ln → List Rw → Er × List Ln
  | acc, [] => (none, acc)
  | acc, r :: rs => match duePut hs (acc.map (·.1)) r.1 r.2.1 r.2.2 with
    | none => runLs hs (acc ++ [mkLn r.1 r.2.1 r.2.2]) rs
    | some e => (some e, acc)
theorem runLs_no {hs : List Str} {acc : List Ln} {r : Rw} {rs : List Rw} (h : duePut hs (acc.map (·.1)) r.1 r.2.1 r.2.2 = none) : runLs hs acc (r :: rs) = runLs hs (acc ++ [mkLn r.1 r.2.1 r.2.2]) rs := by
  rw [runLs, h]
theorem runLs_er {hs : List Str} {acc : List Ln} {r : Rw} {rs : List Rw} {e : Str × Str × D} (h : duePut hs (acc.map (·.1)) r.1 r.2.1 r.2.2 = some e) : runLs hs acc (r :: rs) = (some e, acc) := by
  rw [runLs, h]
theorem runLs_congr {hs hs' : List Str} (h : ∀ t, t ∈ hs ↔ t ∈ hs') : ∀ (acc : List Ln) (rs : List Rw), runLs hs acc rs = runLs hs' acc rs
  | acc, [] => rfl
  | acc, r :: rs => by
    rw [runLs, runLs, duePut_congr (ns' := acc.map (·.1)) h (.refl _)]
    cases duePut hs' (acc.map (·.1)) r.1 r.2.1 r.2.2 with
    | none => exact runLs_congr h _ rs
    | some e => rfl
theorem duePut_none {hs ns : List Str} {l a b : D} (h : duePut hs ns l a b = none) : ∃ l' a' b' : Str, l = .str l' ∧ a = .str a' ∧ b = .str b' ∧ nmS l' ∧ nmS a' ∧ nmS b' ∧ a' ∈ hs ∧ b' ∈ hs ∧ a' ≠ b' ∧ l' ∉ ns ∧ ns.length < 96 := by
  unfold duePut at h
  split at h
  · rename_i h1
    split at h
    · rename_i h2
      split at h
      · rename_i h3
        obtain ⟨l1, rfl, _⟩ := nmD_str h1
        obtain ⟨a1, rfl, _⟩ := nmD_str h2
        obtain ⟨b1, rfl, _⟩ := nmD_str h3
        simp only [strOf] at h
        unfold duePutS at h
        split at h
        · rename_i h4
          split at h
          · rename_i h5
            split at h
            · cases h
            · rename_i h6
              split at h
              · cases h
              · rename_i h7
                split at h
                · cases h
                · rename_i h8
                  exact ⟨_, _, _, rfl, rfl, rfl, h1, h2, h3, h4, h5, h6, h7, by omega⟩
          · cases h
        · cases h
      · cases h
    · cases h
  · cases h
structure LnOk (hs : List Str) (ls : List Ln) : Prop where
  nd : (ls.map (·.1)).Nodup
  len : ls.length ≤ 96
  nm : ∀ z ∈ ls, nmS z.1
  inn : ∀ z ∈ ls, z.2.1 ∈ hs ∧ z.2.2 ∈ hs
  lt : ∀ z ∈ ls, z.2.1.cps.toList < z.2.2.cps.toList
theorem LnOk.nil {hs : List Str} : LnOk hs [] := ⟨by simp, by simp, by simp, by simp, by simp⟩
theorem str_ne_lt {a b : Str} (h : a ≠ b) (h2 : ¬ b.cps.toList < a.cps.toList) : a.cps.toList < b.cps.toList := by
  by_cases h3 : a.cps.toList < b.cps.toList
  · exact h3
  · exact absurd (leS_anti (List.not_lt.mp h2) (List.not_lt.mp h3)) h
theorem mkLn_str (l a b : Str) : mkLn (.str l) (.str a) (.str b) = if ltS b a = true then (l, b, a) else (l, a, b) := rfl
theorem mkLn_fst (l a b : Str) : (mkLn (.str l) (.str a) (.str b)).1 = l := by
  rw [mkLn_str]
  split <;> rfl
theorem mkLn_ok {hs : List Str} {l a b : Str} (ha : a ∈ hs) (hb : b ∈ hs) (hab : a ≠ b) : (mkLn (.str l) (.str a) (.str b)).2.1 ∈ hs ∧ (mkLn (.str l) (.str a) (.str b)).2.2 ∈ hs ∧ (mkLn (.str l) (.str a) (.str b)).2.1.cps.toList < (mkLn (.str l) (.str a) (.str b)).2.2.cps.toList := by
  rw [mkLn_str]
  unfold ltS
  by_cases h : b.cps.toList < a.cps.toList
  · rw [decide_eq_true h, if_pos rfl]
    exact ⟨hb, ha, h⟩
  · rw [decide_eq_false h, if_neg Bool.false_ne_true]
    exact ⟨ha, hb, str_ne_lt hab h⟩
theorem LnOk.app {hs : List Str} {ls : List Ln} {l a b : D} (h : LnOk hs ls) (hd : duePut hs (ls.map (·.1)) l a b = none) : LnOk hs (ls ++ [mkLn l a b]) := by
  obtain ⟨l, a, b, rfl, rfl, rfl, hl, _, _, h1, h2, h3, h4, h5⟩ := duePut_none hd
  obtain ⟨e1, e2, e3⟩ := mkLn_ok (l := l) h1 h2 h3
  rw [List.length_map] at h5
  refine ⟨?_, by rw [List.length_append]; simp; omega, fun z hz => ?_, fun z hz => ?_, fun z hz => ?_⟩
  · rw [List.map_append]
    refine List.nodup_append.mpr ⟨h.nd, by simp, fun x hx y hy => ?_⟩
    have e : y = l := by simpa [mkLn_fst] using hy
    subst e
    exact fun e => h4 (e ▸ hx)
  · rcases List.mem_append.mp hz with hz | hz
    · exact h.nm z hz
    · have e : z = mkLn (.str l) (.str a) (.str b) := by simpa using hz
      subst e
      rw [mkLn_fst]
      exact hl
  · rcases List.mem_append.mp hz with hz | hz
    · exact h.inn z hz
    · have e : z = mkLn (.str l) (.str a) (.str b) := by simpa using hz
      subst e
      exact ⟨e1, e2⟩
  · rcases List.mem_append.mp hz with hz | hz
    · exact h.lt z hz
    · have e : z = mkLn (.str l) (.str a) (.str b) := by simpa using hz
      subst e
      exact e3
theorem runLs_ok {hs : List Str} : ∀ {acc : List Ln} {rs : List Rw}, LnOk hs acc → LnOk hs (runLs hs acc rs).2
  | acc, [], h => h
  | acc, r :: rs, h => by
    cases e : duePut hs (acc.map (·.1)) r.1 r.2.1 r.2.2 with
    | none =>
      rw [runLs_no e]
      exact runLs_ok (h.app e)
    | some e2 =>
      rw [runLs_er e]
      exact h
theorem LnOk.congr {hs hs' : List Str} {ls : List Ln} (h : ∀ t, t ∈ hs ↔ t ∈ hs') (o : LnOk hs ls) : LnOk hs' ls := ⟨o.nd, o.len, o.nm, fun z hz => ⟨(h _).mp (o.inn z hz).1, (h _).mp (o.inn z hz).2⟩, o.lt⟩
theorem LnOk.perm {hs : List Str} {ls zs : List Ln} (o : LnOk hs ls) (p : zs.Perm ls) : LnOk hs zs := ⟨(p.map _).nodup_iff.mpr o.nd, by rw [p.length_eq]; exact o.len, fun z hz => o.nm z (p.subset hz), fun z hz => o.inn z (p.subset hz), fun z hz => o.lt z (p.subset hz)⟩
theorem ne_of_lt {a b : Str} (h : a.cps.toList < b.cps.toList) : a ≠ b := fun e => by
  subst e
  exact List.lt_irrefl _ h
/-- rows as they are handed -/
def Rws : List D → List Rw → Prop
  | [], [] => True
  | d :: r, w :: ws => (d = .tup [w.1, w.2.1, w.2.2] ∨ d = .lst [w.1, w.2.1, w.2.2]) ∧ (Vl w.1 ∧ Vl w.2.1 ∧ Vl w.2.2) ∧ Rws r ws
  | _, _ => False
/-! ### a web -/
def webF (ys : List Str) (ps zs : List Ln) : List (Str × D) := [("own_houses", .tup (ys.map D.str)), ("own_pairs", .dct (ps.map prD)), ("own_lines", .tup (zs.map lnD)), ("own_near", .dct (nearD ys zs))]
structure WebOk (ys : List Str) (ps zs : List Ln) : Prop where
  nd : ys.Nodup
  len : ys.length ≤ 32
  srt : ys.Pairwise leS
  ok : LnOk ys ps
  perm : zs.Perm ps
  asc : zs.Pairwise leN
def webE (hs : List D) (rows : List Rw) : Er := match due [] hs with
  | .ok => (runLs (hs.map strOf) [] rows).1
  | d => duE d
theorem webE_ok {hs : List D} {rows : List Rw} (h : due [] hs = .ok) : webE hs rows = (runLs (hs.map strOf) [] rows).1 := by
  unfold webE
  rw [h]
theorem webE_due {hs : List D} {rows : List Rw} {ex : Ex2} {μ : Mu} (h : erX (webE hs rows) ex μ) : duX (due [] hs) ex μ := by
  unfold webE at h
  cases e : due [] hs with
  | ok => trivial
  | bad x => rw [e] at h; exact duX_of h
  | taken x => rw [e] at h; exact duX_of h
  | many => rw [e] at h; exact duX_of h
theorem srt_mem {hs : List D} {ys : List Str} (h : Srt hs ys) : ys.Nodup ∧ ys.length ≤ 32 ∧ ys.Pairwise leS ∧ ∀ t, t ∈ ys ↔ t ∈ hs.map strOf := by
  obtain ⟨ss, rfl, hp, hn, hl, hs⟩ := h
  refine ⟨hn, hl, hs, fun t => ?_⟩
  have e : (ss.map D.str).map strOf = ss := by
    rw [List.map_map]
    exact (List.map_congr_left (g := id) fun _ _ => rfl).trans (List.map_id _)
  rw [e]
  exact hp.mem_iff
def sp_Web_init : Sp2 := fun ds μ Q ex => ∃ (x : Addr) (H R : D) (hs rs : List D) (rows : List Rw), ds = [.ref x, H, R] ∧ μ x = some (.ins "Web" []) ∧ LT H hs ∧ Row 1000 hs ∧ LT R rs ∧ Rws rs rows ∧
  (webE hs rows = none → ∀ ys zs, WebOk ys (runLs (hs.map strOf) [] rows).2 zs → Srt hs ys → Q .non (mup μ x (.ins "Web" (webF ys (runLs (hs.map strOf) [] rows).2 zs)))) ∧ ∀ μ', Le μ μ' → erX (webE hs rows) ex μ'
theorem len_Web_init (ds : List D) (μ : Mu) (Q : QE) (ex : Ex2) (h : sp_Web_init ds μ Q ex) : ds.length = 3 := by
  obtain ⟨x, H, R, hs, rs, rows, rfl, _⟩ := h
  rfl
theorem kB_keys (ys : List Str) : (kB ys).map (·.1) = ys.map ks := by
  unfold kB
  rw [List.map_map]
  rfl
theorem nearD_keys (ys : List Str) (zs : List Ln) : (nearD ys zs).map (·.1) = ys.map ks := by
  unfold nearD
  rw [List.map_map]
  rfl
theorem prD_new {ls : List Ln} {l : Str} (h : l ∉ ls.map (·.1)) : valD (ls.map prD) (ks l) = none := by
  have := kys_val (prD_keys ls) l
  rw [decide_eq_false h] at this
  simpa using this
theorem ord_mk (l a b : Str) : (ks l, ordD a b) = prD (mkLn (.str l) (.str a) (.str b)) := by
  unfold ordD
  rw [mkLn_str]
  split <;> rfl
theorem put_pr {ls : List Ln} {l a b : Str} (h : l ∉ ls.map (·.1)) : putKD (ls.map prD) (ks l) (ordD a b) = (ls ++ [mkLn (.str l) (.str a) (.str b)]).map prD := by
  rw [keys_put_new (prD_new h), ord_mk, List.map_append]
  rfl
theorem put1 {v : D} : putD "own_houses" v [] = ([("own_houses", v)] : List (Str × D)) := rfl
theorem put2 {v h : D} : putD "own_pairs" v [("own_houses", h)] = ([("own_houses", h), ("own_pairs", v)] : List (Str × D)) := by with_unfolding_all rfl
theorem put3 {v h p : D} : putD "own_lines" v [("own_houses", h), ("own_pairs", p)] = ([("own_houses", h), ("own_pairs", p), ("own_lines", v)] : List (Str × D)) := by with_unfolding_all rfl
theorem put4 {v h p l : D} : putD "own_near" v [("own_houses", h), ("own_pairs", p), ("own_lines", l)] = ([("own_houses", h), ("own_pairs", p), ("own_lines", l), ("own_near", v)] : List (Str × D)) := by with_unfolding_all rfl
theorem putW1 {v h p l n : D} : putD "own_houses" v [("own_houses", h), ("own_pairs", p), ("own_lines", l), ("own_near", n)] = ([("own_houses", v), ("own_pairs", p), ("own_lines", l), ("own_near", n)] : List (Str × D)) := by with_unfolding_all rfl
theorem putW2 {v h p l n : D} : putD "own_pairs" v [("own_houses", h), ("own_pairs", p), ("own_lines", l), ("own_near", n)] = ([("own_houses", h), ("own_pairs", v), ("own_lines", l), ("own_near", n)] : List (Str × D)) := by with_unfolding_all rfl
theorem putW3 {v h p l n : D} : putD "own_lines" v [("own_houses", h), ("own_pairs", p), ("own_lines", l), ("own_near", n)] = ([("own_houses", h), ("own_pairs", p), ("own_lines", v), ("own_near", n)] : List (Str × D)) := by with_unfolding_all rfl
theorem putW4 {v h p l n : D} : putD "own_near" v [("own_houses", h), ("own_pairs", p), ("own_lines", l), ("own_near", n)] = ([("own_houses", h), ("own_pairs", p), ("own_lines", l), ("own_near", v)] : List (Str × D)) := by with_unfolding_all rfl
theorem setF_at {C f : Str} {y : D} {fs fs' : List (Str × D)} {x : Addr} {μ : Mu} {P : Mu → Prop} (h : μ x = some (.ins C fs)) (hl : fs.length < 1000) (e : putD f y fs = fs') (q : P (mup μ x (.ins C fs'))) : ∃ a fs, D.ref x = .ref a ∧ μ a = some (.ins C fs) ∧ fs.length < 1000 ∧ P (mup μ a (.ins C (putD f y fs))) := ⟨x, fs, rfl, h, hl, by rw [e]; exact q⟩
theorem lnok_near {ys : List Str} {zs : List Ln} (o : LnOk ys zs) : ∀ z ∈ zs, z.2.1 ∈ ys ∧ z.2.2 ∈ ys ∧ z.2.1 ≠ z.2.2 := fun z hz => ⟨(o.inn z hz).1, (o.inn z hz).2, ne_of_lt (o.lt z hz)⟩
theorem pure_Web_init (ds : List D) (μ : Mu) (Q : QE) (ex : Ex2) (h : sp_Web_init ds μ Q ex) : t_Web_init sp_check_houses sp_line_tuples sp_lines_by_house_webs sp_check_new_line sp_ordered (fun _ => ex) (ends Q) (startD ["a", "b", "c", "d", "e", "f", "g", "h", "i", "j"] ds) μ := by
  obtain ⟨x, H, R, hs, rs, rows, rfl, hx, hH, hr, hR, hrw, q1, q2⟩ := h
  have hsz := sizeLine_eq
  unfold t_Web_init
  show jSeq _ _ (ends Q) [some _, some _, some _, none, none, none, none, none, none, none] μ
  walk_at "js"
  refine ⟨H, hs, rfl, hH, hr, fun hok ys hy => .f (.of ?_), fun μ' hle => webE_due (q2 μ' hle)⟩
  obtain ⟨s1, s2, s3, s4⟩ := srt_mem hy
  rw [webE_ok hok, runLs_congr (fun t => (s4 t).symm)] at q1 q2
  walk_at "js"
  refine dc_inv (fun r acc μ' => μ' = μ ∧ ∃ as rs : List Str, ys = as ++ rs ∧ r = rs.map D.str ∧ acc = kB as) (fun _ _ _ _ => trivial) ?_ ?_ _ _ _ ⟨rfl, [], ys, rfl, rfl, rfl⟩
  · rintro d r acc μ' ⟨rfl, as, rs, h1, h2, rfl⟩ N hN
    cases rs with
    | nil => cases h2
    | cons y rs =>
      rw [List.map_cons] at h2
      injection h2 with e1 e2
      subst e1 e2
      have hy : y ∉ as := fun hy => by
        rw [h1] at s1
        exact (List.nodup_append.mp s1).2.2 y hy y (List.mem_cons_self ..) rfl
      have hal : as.length ≤ ys.length := by
        have := congrArg List.length h1
        rw [List.length_append] at this
        omega
      show kName 9 (.str y) _ _ _
      walk_at "js"
      refine w_true ?_
      walk_at "js"
      refine ⟨ks y, rfl, by unfold kB; rw [List.length_map]; omega, ?_⟩
      rw [kB_put hy]
      exact hN _ _ ⟨rfl, as ++ [y], rs, by rw [h1]; simp, rfl, rfl⟩
  · rintro acc μ' ⟨rfl, as, rs, h1, h2, rfl⟩
    cases rs with
    | cons y rs => cases h2
    | nil =>
    rw [List.append_nil] at h1
    subst h1
    refine .f ?_
    walk_at "js"
    refine .m fun p hp => ?_
    walk_at "js"
    rename_i N0 hN0
    refine x_iLT ?_
    walk_at "js"
    refine lt_walk hR ?_
    refine loop_inv (fun r δ μ2 => ∃ (acc : List Ln) (ws : List Rw) (o1 o2 o3 : Option D), runLs ys acc ws = runLs ys [] rows ∧ Rws r ws ∧ LnOk ys acc ∧ μ2 = mup μ' p (.dct (acc.map prD)) ∧ δ = [some (.ref x), some H, some R, some (.lst (ys.map D.str)), some (.dct (kB ys)), some (.ref p), o1, o2, o3, none]) (fun _ _ _ _ => trivial) ?_ ?_ _ _ _ ⟨[], rows, none, none, none, rfl, hrw, .nil, rfl, rfl⟩
    · rintro d r δ μ2 ⟨acc, ws, o1, o2, o3, he, hw, ho, rfl, rfl⟩ QN hN
      cases ws with
      | nil => exact False.elim hw
      | cons w ws =>
        obtain ⟨l, a, b⟩ := w
        obtain ⟨hd, ⟨v1, v2, v3⟩, hw⟩ := hw
        refine x_ktl (xs := [l, a, b]) (by rcases hd with rfl | rfl; exact .inl rfl; exact .inr .f) rfl ?_
        walk_at "js"
        refine ⟨l, a, b, _, _, ys, acc.map (·.1), rfl, ⟨_, .f, kB_keys ys⟩, ⟨_, .m mup_same, prD_keys acc⟩, v1, v2, v3, fun hok => .of ?_, ?_⟩
        rotate_left
        · cases e : duePut ys (acc.map (·.1)) l a b with
          | none => trivial
          | some e2 =>
            have := q2 (mup μ' p (.dct (acc.map prD))) (le_fresh hp)
            rw [← he, runLs_er (r := (l, a, b)) e] at this
            exact this
        have ho2 := ho.app hok
        have he2 := runLs_no (r := (l, a, b)) (rs := ws) hok
        obtain ⟨l, a, b, rfl, rfl, rfl, hl, _, _, h1, h2, h3, h4, h5⟩ := duePut_none hok
        walk_at "js"
        refine ⟨a, b, rfl, .of ?_⟩
        walk_at "js"
        refine x_setD mup_same (kk := ks l) rfl (by rw [List.length_map]; have := ho.len; omega) ?_
        rw [mup_mup, put_pr h4]
        exact hN _ _ ⟨_, ws, _, _, _, he2.symm.trans he, hw, ho2, rfl, rfl⟩
    · rintro δ μ2 ⟨acc, ws, o1, o2, o3, he, hw, ho, rfl, rfl⟩
      cases ws with
      | cons w ws => exact False.elim hw
      | nil =>
      rw [← he] at q1
      refine x_nx hN0 ?_
      refine Gst.dct (i := 5) rfl mup_same ?_
      rw [mdel_mup hp]
      dsimp only [List.set]
      walk_at "js"
      refine setF_at hx (by decide) put1 ?_
      walk_at "js"
      refine setF_at mup_same (by simp) put2 ?_
      rw [mup_mup]
      walk_at "js"
      refine ⟨_, acc, rfl, .f, ho.nd, by have := ho.len; omega, fun zs hz hs => .of ?_⟩
      walk_at "js"
      refine setF_at mup_same (by simp) put3 ?_
      rw [mup_mup]
      walk_at "js"
      refine ⟨ys, zs, rfl, s1, by omega, by rw [hz.length_eq]; have := ho.len; omega, lnok_near (ho.perm hz), .of ?_⟩
      walk_at "js"
      refine setF_at mup_same (by simp) put4 ?_
      rw [mup_mup]
      exact .of (q1 rfl ys zs ⟨s1, s2, s3, ho, hz, hs⟩ hy)
/-! ### a web out of houses and pairs -/
def sp_checked_web : Sp2 := fun ds μ Q _ => ∃ (ys : List Str) (ps : List Ln), ds = [.tup (ys.map D.str), .dct (ps.map prD)] ∧ ys.Nodup ∧ ys.length ≤ 32 ∧ LnOk ys ps ∧ ∀ zs, zs.Perm ps → zs.Pairwise leN → Q (.ins "Web" (webF ys ps zs)) μ
theorem len_checked_web (ds : List D) (μ : Mu) (Q : QE) (ex : Ex2) (h : sp_checked_web ds μ Q ex) : ds.length = 2 := by
  obtain ⟨ys, ps, rfl, _⟩ := h
  rfl
theorem pure_checked_web (ds : List D) (μ : Mu) (Q : QE) (ex : Ex2) (h : sp_checked_web ds μ Q ex) : t_checked_web sp_Web_init sp_line_tuples sp_lines_by_house_webs (ends Q) (startD ["a", "b", "c"] ds) μ := by
  obtain ⟨ys, ps, rfl, s1, s2, ho, q⟩ := h
  unfold t_checked_web
  show jSeq _ _ (ends Q) [some _, some _, none] μ
  walk_at "js"
  intro x hx
  refine ⟨x, .tup [], .tup [], [], [], [], rfl, mup_same, .inr rfl, ⟨by simp, by simp⟩, .inr rfl, trivial, fun _ ys0 zs0 w0 hy0 => ⟨rfl, .of ?_⟩, fun _ _ => trivial⟩
  rw [mup_mup]
  unfold webF
  walk_at "js"
  refine setF_at mup_same (by simp) putW1 ?_
  rw [mup_mup]
  walk_at "js"
  refine setF_at mup_same (by simp) putW2 ?_
  rw [mup_mup]
  walk_at "js"
  refine ⟨_, ps, rfl, .f, ho.nd, by have := ho.len; omega, fun zs hz hs => .of ?_⟩
  walk_at "js"
  refine setF_at mup_same (by simp) putW3 ?_
  rw [mup_mup]
  walk_at "js"
  refine ⟨ys, zs, rfl, s1, by omega, by rw [hz.length_eq]; have := ho.len; omega, lnok_near (ho.perm hz), .of ?_⟩
  walk_at "js"
  refine setF_at mup_same (by simp) putW4 ?_
  rw [mup_mup]
  walk_at "js"
  refine .ins mup_same ?_
  rw [mdel_mup hx]
  exact q zs hz hs
/-! ### what a web tells -/
def sp_Web_houses : Sp2 := fun ds μ Q _ => ∃ (ys : List Str) (ps zs : List Ln), ds = [.ins "Web" (webF ys ps zs)] ∧ Q (.lst (ys.map D.str)) μ
theorem len_Web_houses (ds : List D) (μ : Mu) (Q : QE) (ex : Ex2) (h : sp_Web_houses ds μ Q ex) : ds.length = 1 := by
  obtain ⟨ys, ps, zs, rfl, _⟩ := h
  rfl
theorem pure_Web_houses (ds : List D) (μ : Mu) (Q : QE) (ex : Ex2) (h : sp_Web_houses ds μ Q ex) : t_Web_houses (ends Q) (startD ["a"] ds) μ := by
  obtain ⟨ys, ps, zs, rfl, q⟩ := h
  unfold t_Web_houses
  show jRet _ (ends Q) [some _] μ
  walk_at "js"
  exact .f (.of q)
def sp_Web_lines : Sp2 := fun ds μ Q _ => ∃ (ys : List Str) (ps zs : List Ln), ds = [.ins "Web" (webF ys ps zs)] ∧ Q (.lst (zs.map lnD)) μ
theorem len_Web_lines (ds : List D) (μ : Mu) (Q : QE) (ex : Ex2) (h : sp_Web_lines ds μ Q ex) : ds.length = 1 := by
  obtain ⟨ys, ps, zs, rfl, _⟩ := h
  rfl
theorem pure_Web_lines (ds : List D) (μ : Mu) (Q : QE) (ex : Ex2) (h : sp_Web_lines ds μ Q ex) : t_Web_lines (ends Q) (startD ["a"] ds) μ := by
  obtain ⟨ys, ps, zs, rfl, q⟩ := h
  unfold t_Web_lines
  show jRet _ (ends Q) [some _] μ
  walk_at "js"
  exact .f (.of q)

def TellR (n : Nat) (s : Addr) (μ : Mu) (Q : QE) : Prop := ∀ (xs : List D) (m' : MO), IsSt m' → Row n xs → Q (.lst xs) (mup μ s m')
theorem row_lv {μ : Mu} {s : Addr} {xs : List D} : LV μ s (.lst xs) xs := .inl rfl
/-! ### a full list -/

/-! ### check_houses called -/
def refD : Du → D
  | .ok => .non
  | .bad x => .tup [.str "refused", .str "BadName", x]
  | .taken x => .tup [.str "refused", .str "Taken", x]
  | .many => .tup [.str "refused", .str "TooMany", .int 32]
/-! ### what is told is in order -/
theorem seq_len {μ : Mu} {v : D} {xs : List D} {Q : QE} (h : SeqAt μ v xs) (q : Q (.int xs.length) μ) : len1 [v] μ Q := by
  rcases h with (rfl | ⟨a, rfl, h⟩) | rfl
  · exact x_lenL q
  · exact x_lenM h q
  · exact x_lenR q
theorem seq_ix {μ : Mu} {x : D} {xs : List D} {k : Nat} {d : D} {Q : QE} (h : SeqAt μ x xs) (e : xs[k]? = some d) (q : Q d μ) : ix2 x (.int (k : Nat)) μ Q := .inl ⟨xs, _, d, .inl h, rfl, atI_some e, q⟩
theorem leS_lt {a b : Str} (h : leS a b) (hne : a ≠ b) : a.cps.toList < b.cps.toList := by
  by_cases h2 : a.cps.toList < b.cps.toList
  · exact h2
  · exact absurd (leS_anti h (List.not_lt.mp h2)) hne

/-! ### a pair of houses -/
/-- two places, drawn -/
def PairSt (N : Sg → Mu → Prop) (μ : Mu) (s : Addr) (v : D) (sh k : Int) (n : Nat) : Prop := ∀ (i j : Int) (m : MO) (o7 o8 o9 : Option D), 0 ≤ i → i < n → 0 ≤ j → j < n → IsSt m → N [some (.ref s), some v, some (.int sh), some (.int k), some (.int n), some (.int i), some (.int j), o7, o8, o9] (mup μ s m)
theorem succ_mod {i : Int} {n : Nat} (hn : 2 ≤ n) (h0 : 0 ≤ i) (h1 : i < n) : i ≠ (i + 1) % (n : Int) := by
  by_cases h : i + 1 < n
  · rw [Int.emod_eq_of_lt (by omega) h]
    omega
  · rw [show i + 1 = (n : Int) by omega, Int.emod_self]
    omega
theorem pair_told {ys : List Str} {Q : QE} {μ : Mu} (hnd : ys.Nodup) {i j : Nat} (hi : i < ys.length) (hj : j < ys.length) (hij : i ≠ j) (q : ∀ a b : Str, a ∈ ys → b ∈ ys → a.cps.toList < b.cps.toList → Q (.tup [.str a, .str b]) μ) :
    Q (.tup [.str (if ys[j].cps.toList < ys[i].cps.toList then ys[j] else ys[i]), .str (if ys[i].cps.toList < ys[j].cps.toList then ys[j] else ys[i])]) μ := by
  have hne : ys[i] ≠ ys[j] := fun e => hij ((List.getElem?_inj hi hnd).mp (by rw [List.getElem?_eq_getElem hi, List.getElem?_eq_getElem hj, e]))
  by_cases h : ys[j].cps.toList < ys[i].cps.toList
  · have h2 : ¬ ys[i].cps.toList < ys[j].cps.toList := fun h2 => hne (leS_anti (List.le_of_lt h2) (List.le_of_lt h))
    rw [if_pos h, if_neg h2]
    exact q _ _ (List.getElem_mem hj) (List.getElem_mem hi) h
  · have h2 := str_ne_lt hne h
    rw [if_neg h, if_pos h2]
    exact q _ _ (List.getElem_mem hi) (List.getElem_mem hj) h2

/-! ### names of lines -/
theorem cut_take (xs : List D) (n : Nat) : J.cutD xs none (some (n : Int)) = xs.take n := by
  unfold J.cutD
  rw [show HT.sIx xs.length 0 none = 0 from rfl]
  have e : HT.sIx xs.length xs.length (some (n : Int)) = min n xs.length := by
    unfold HT.sIx
    simp only
    split <;> omega
  rw [e, List.drop_zero, Nat.sub_zero]
  by_cases h : n ≤ xs.length
  · rw [Nat.min_eq_left h]
  · rw [Nat.min_eq_right (by omega), List.take_of_length_le (Nat.le_refl _), List.take_of_length_le (by omega)]
theorem nodup_sub : ∀ {l m : List Str}, l.Nodup → (∀ x ∈ l, x ∈ m) → l.length ≤ m.length
  | [], _, _, _ => Nat.zero_le _
  | x :: r, m, hn, h => by
    rw [List.nodup_cons] at hn
    have hx := h x (List.mem_cons_self ..)
    have := nodup_sub (l := r) (m := m.erase x) hn.2 fun y hy => (List.mem_erase_of_ne (fun e : y = x => hn.1 (e ▸ hy))).mpr (h y (List.mem_cons_of_mem _ hy))
    rw [List.length_erase_of_mem hx] at this
    have := List.length_pos_of_mem hx
    rw [List.length_cons]
    omega
def flN (ys : List Str) : D → Option D
  | .str t => if t ∈ ys then none else some (.str t)
  | d => some d
theorem flN_map (ys : List Str) : ∀ zs : List Str, (zs.map D.str).filterMap (flN ys) = (zs.filter fun t => !decide (t ∈ ys)).map D.str
  | [] => rfl
  | z :: zs => by
    rw [List.map_cons, List.filterMap_cons, List.filter_cons]
    rw [show flN ys (.str z) = if z ∈ ys then none else some (.str z) from rfl]
    by_cases h : z ∈ ys
    · rw [if_pos h, decide_eq_true h]
      exact flN_map ys zs
    · rw [if_neg h, decide_eq_false h]
      exact congrArg _ (flN_map ys zs)
theorem flt_len : ∀ (ys zs : List Str), (zs.filter fun t => decide (t ∈ ys)).length + (zs.filter fun t => !decide (t ∈ ys)).length = zs.length
  | ys, [] => rfl
  | ys, z :: zs => by
    have ih := flt_len ys zs
    by_cases h : z ∈ ys
    · simp [List.filter_cons, h] at ih ⊢
      omega
    · simp [List.filter_cons, h] at ih ⊢
      omega
structure Hs (ys : List Str) : Prop where
  nm : ∀ y ∈ ys, nmS y
  nd : ys.Nodup
  len : ys.length ≤ 1000
theorem Nms.hs {k : Nat} {ys : List Str} (h : Nms k ys) (hk : k ≤ 1000) : Hs ys := ⟨h.2.1, h.2.2, by rw [h.1]; exact hk⟩
theorem LV.fresh {μ : Mu} {s : Addr} {v : D} {xs : List D} {p : Addr} {o : MO} (h : LV μ s v xs) (hp : μ p = none) : LV (J.mup μ p o) s v xs := by
  rcases h with rfl | ⟨q, rfl, h1, hq⟩
  · exact .inl rfl
  · exact .inr ⟨q, rfl, h1, (mup_ne fun e => by rw [e, hp] at hq; cases hq).trans hq⟩
/-! ### lines drawn -/
/-- the first k lines, by names zs -/
structure Acc (ys zs : List Str) (k : Nat) (acc : List Ln) : Prop where
  fst : acc.map (·.1) = zs.take k
  inn : ∀ z ∈ acc, z.2.1 ∈ ys ∧ z.2.2 ∈ ys
  lt : ∀ z ∈ acc, z.2.1.cps.toList < z.2.2.cps.toList
theorem Acc.nil {ys zs : List Str} : Acc ys zs 0 [] := ⟨by simp, by simp, by simp⟩
theorem Acc.app {ys zs : List Str} {k : Nat} {acc : List Ln} {a b : Str} (h : Acc ys zs k acc) (hk : k < zs.length) (ha : a ∈ ys) (hb : b ∈ ys) (hab : a.cps.toList < b.cps.toList) : Acc ys zs (k + 1) (acc ++ [(zs[k], a, b)]) := by
  refine ⟨?_, fun z hz => ?_, fun z hz => ?_⟩
  · rw [List.map_append, h.fst, List.take_succ, List.getElem?_eq_getElem hk]
    rfl
  · rcases List.mem_append.mp hz with hz | hz
    · exact h.inn z hz
    · have e : z = (zs[k], a, b) := by simpa using hz
      subst e
      exact ⟨ha, hb⟩
  · rcases List.mem_append.mp hz with hz | hz
    · exact h.lt z hz
    · have e : z = (zs[k], a, b) := by simpa using hz
      subst e
      exact hab
theorem Acc.len {ys zs : List Str} {k : Nat} {acc : List Ln} (h : Acc ys zs k acc) : acc.length ≤ k := by
  have := congrArg List.length h.fst
  rw [List.length_map, List.length_take] at this
  omega
theorem Acc.ok {ys zs : List Str} {n : Nat} {acc : List Ln} (h : Acc ys zs n acc) (hz : Nms n zs) (hn : n ≤ 96) : LnOk ys acc := by
  have e : acc.map (·.1) = zs := by
    rw [h.fst, List.take_of_length_le]
    rw [hz.1]
    exact Nat.le_refl _
  exact ⟨by rw [e]; exact hz.2.2, Nat.le_trans h.len hn, fun z hz' => hz.2.1 _ (by rw [← e]; exact List.mem_map.mpr ⟨z, hz', rfl⟩), h.inn, h.lt⟩

/-! ### a web drawn -/
def TellW (s : Addr) (μ : Mu) (Q : QE) : Prop := ∀ (ys : List Str) (ls : List Ln) (m' : MO), IsSt m' → Hs ys → ys.length ≤ 32 → LnOk ys ls → Q (.lst [.lst (ys.map D.str), .lst (ls.map lnD)]) (mup μ s m')
def TellWn (n : Nat) (s : Addr) (μ : Mu) (Q : QE) : Prop := ∀ (ys : List Str) (ls : List Ln) (m' : MO), IsSt m' → Hs ys → ys.length ≤ 32 → LnOk ys ls → (ls.length ≤ 14 ∨ ls.length ≤ 3 * n) → Q (.lst [.lst (ys.map D.str), .lst (ls.map lnD)]) (mup μ s m')
/-! ### a full web -/
theorem Hs.take {ys : List Str} (h : Hs ys) (n : Nat) : Hs (ys.take n) := ⟨fun y hy => h.nm y (List.mem_of_mem_take hy), (List.take_sublist ..).nodup h.nd, by rw [List.length_take]; have := h.len; omega⟩

/-! ### rows handed -/
abbrev Rb := Rw × Bool
def rwD (w : Rb) : D := if w.2 = true then .tup [w.1.1, w.1.2.1, w.1.2.2] else .lst [w.1.1, w.1.2.1, w.1.2.2]
def VlR (w : Rw) : Prop := Vl w.1 ∧ Vl w.2.1 ∧ Vl w.2.2
theorem rwD_or (w : Rb) : rwD w = .tup [w.1.1, w.1.2.1, w.1.2.2] ∨ rwD w = .lst [w.1.1, w.1.2.1, w.1.2.2] := by
  unfold rwD
  split
  · exact .inl rfl
  · exact .inr rfl
theorem rws_map : ∀ {ws : List Rb}, (∀ w ∈ ws, VlR w.1) → Rws (ws.map rwD) (ws.map (·.1))
  | [], _ => trivial
  | w :: r, h => ⟨rwD_or w, h w (List.mem_cons_self ..), rws_map fun w hw => h w (List.mem_cons_of_mem _ hw)⟩
def hndR (h : Ln × Bool × Bool) : Rb := (if h.2.1 = true then (.str h.1.1, .str h.1.2.2, .str h.1.2.1) else (.str h.1.1, .str h.1.2.1, .str h.1.2.2), h.2.2)
theorem row_ix {d l a b : D} {μ : Mu} {Q : QE} (h : d = .tup [l, a, b] ∨ d = .lst [l, a, b]) : (Q l μ → ix2 d (.int 0) μ Q) ∧ (Q a μ → ix2 d (.int 1) μ Q) ∧ (Q b μ → ix2 d (.int 2) μ Q) := by
  rcases h with rfl | rfl
  · exact ⟨fun q => x_ixT rfl q, fun q => x_ixT rfl q, fun q => x_ixT rfl q⟩
  · exact ⟨fun q => x_ixL rfl q, fun q => x_ixL rfl q, fun q => x_ixL rfl q⟩
theorem row_sl {d l a b : D} {μ : Mu} {Q : QE} (h : d = .tup [l, a, b] ∨ d = .lst [l, a, b]) (q : ∀ d', d' = .tup [a, b] ∨ d' = .lst [a, b] → Q d' μ) : sl2 d (some 1) none μ Q := by
  rcases h with rfl | rfl
  · exact .inr (.inl ⟨_, rfl, q _ (.inl rfl)⟩)
  · exact .inl ⟨_, .f, .f (q _ (.inr rfl))⟩
theorem min_two {d : D} {a b : Str} {μ : Mu} {Q : QE} (h : d = .tup [.str a, .str b] ∨ d = .lst [.str a, .str b]) (q : Q (.str (if b.cps.toList < a.cps.toList then b else a)) μ) : min1 [d] μ Q := by
  rcases h with rfl | rfl
  · exact .inr ⟨a, [b], .inr rfl, q⟩
  · exact .inr ⟨a, [b], .inl .f, q⟩
theorem max_two {d : D} {a b : Str} {μ : Mu} {Q : QE} (h : d = .tup [.str a, .str b] ∨ d = .lst [.str a, .str b]) (q : Q (.str (if a.cps.toList < b.cps.toList then b else a)) μ) : max1 [d] μ Q := by
  rcases h with rfl | rfl
  · exact .inr ⟨a, [b], .inr rfl, q⟩
  · exact .inr ⟨a, [b], .inl .f, q⟩
theorem lnD_mk {l a b : Str} (h : a ≠ b) : D.tup [.str l, .str (if b.cps.toList < a.cps.toList then b else a), .str (if a.cps.toList < b.cps.toList then b else a)] = lnD (mkLn (.str l) (.str a) (.str b)) := by
  rw [mkLn_str]
  unfold ltS
  by_cases h1 : b.cps.toList < a.cps.toList
  · have h2 : ¬ a.cps.toList < b.cps.toList := fun h2 => h (leS_anti (List.le_of_lt h2) (List.le_of_lt h1))
    rw [if_pos h1, if_neg h2, decide_eq_true h1, if_pos rfl]
    rfl
  · have h2 := str_ne_lt h h1
    rw [if_neg h1, if_pos h2, decide_eq_false h1, if_neg Bool.false_ne_true]
    rfl
theorem seq_walk {v : D} {xs : List D} {μ : Mu} {R : List D → (Mu → Prop) → Mu → Prop} (h : SeqAt μ v xs) (hR : ∀ G : Mu → Prop, G μ → R xs G μ) : iSeq' v μ R := by
  rcases h with (rfl | ⟨a, rfl, ha⟩) | rfl
  · exact hR _ trivial
  · exact ⟨xs, ha, hR _ ha⟩
  · exact hR _ trivial
/-! ### what is due of a line -/
def erD : Er → D
  | none => .non
  | some (C, _, x) => .tup [.str C, x]
/-! ### what is due of rows -/

/-! ### put in order -/
theorem x_sortedW {ss xs : List Str} {μ : Mu} {Q : QE} (hl : ss.length < 64) (hp : xs.Perm ss) (hs : xs.Pairwise leS) (h : NewL (xs.map D.str) μ Q) : sorted1 [.lst (ss.map D.str)] μ Q :=
  .inr <| .inl ⟨ss, .inl .f, fun ys h1 h2 => by
    have e : ys = xs := (h1.trans hp.symm).eq_of_pairwise (fun _ _ _ _ a b => leS_anti a b) (sortedS_pw ys h2) hs
    rw [e]
    exact h⟩
theorem lnD_py (l : Ln) : (lnD l).py = .tuple [.str l.1, .str l.2.1, .str l.2.2] := by
  simp [lnD, D.py, D.pys]
theorem lnD_lt {a b : Ln} (h : a.1 ≠ b.1) : PySem.W.dataLt (lnD a).py (lnD b).py = decide (a.1.cps.toList < b.1.cps.toList) := by
  rw [lnD_py, lnD_py, PySem.W.dataLt_tuple, PySem.W.dataLt_cons (by simp [PySem.W.alike])]
  have e : PyData.eqv (.str a.1) (.str b.1) = false := by
    simp [PyData.eqv, h]
  rw [e, if_neg Bool.false_ne_true, PySem.W.dataLt_str]
theorem asc_lns {us : List D} {ls zs : List Ln} (hp : us.Perm (ls.map lnD)) (ha : Asc us) (hn : (ls.map (·.1)).Nodup) (hz : zs.Perm ls) (hs : zs.Pairwise leN) : us = zs.map lnD := by
  obtain ⟨ws, hw, rfl⟩ := perm_lift hp rfl
  have hn2 : (ws.map (·.1)).Nodup := (hw.map _).nodup_iff.mpr hn
  have h1 : ws.Pairwise fun a b => PySem.W.dataLt (lnD b).py (lnD a).py = false := List.pairwise_map.mp ha
  have h2 : ws.Pairwise fun a b : Ln => a.1 ≠ b.1 := List.pairwise_map.mp hn2
  have h3 : ws.Pairwise leN := (h1.and h2).imp fun {a b} h => by
    have e := lnD_lt (a := b) (b := a) (Ne.symm h.2)
    rw [h.1] at e
    have : ¬ b.1.cps.toList < a.1.cps.toList := of_decide_eq_false e.symm
    exact List.not_lt.mp this
  have hinj : ∀ a b : Ln, a ∈ ws → b ∈ ws → a.1 = b.1 → a = b := fun a b ha hb e => by
    obtain ⟨i, hi, rfl⟩ := List.getElem_of_mem ha
    obtain ⟨j, hj, rfl⟩ := List.getElem_of_mem hb
    have := (List.getElem?_inj (by rw [List.length_map]; exact hi) hn2).mp (show (ws.map (·.1))[i]? = (ws.map (·.1))[j]? by rw [List.getElem?_map, List.getElem?_map, List.getElem?_eq_getElem hi, List.getElem?_eq_getElem hj]; exact congrArg some e)
    subst this
    rfl
  have hwz := hw.trans hz.symm
  have e : ws = zs := hwz.eq_of_pairwise (fun a b ha hb h h' => hinj a b ha (hwz.symm.subset hb) (leS_anti h h')) h3 hs
  rw [e]
theorem x_sortedN {ls zs : List Ln} {v : D} {μ : Mu} {Q : QE} (hv : SeqAt μ v (ls.map lnD)) (hn : (ls.map (·.1)).Nodup) (hz : zs.Perm ls) (hs : zs.Pairwise leN) (q : NewL (zs.map lnD) μ Q) : sorted1 [v] μ Q := by
  have e : (ls.map lnD).map D.py = ls.map fun l => .tuple [.str l.1, .str l.2.1, .str l.2.2] := by
    rw [List.map_map]
    exact List.map_congr_left fun l _ => lnD_py l
  refine x_sortedX hv ?_ ?_ ?_ ?_ fun us h1 h2 => ?_
  · exact List.all_eq_true.mpr fun x hx => by
      obtain ⟨l, _, rfl⟩ := List.mem_map.mp hx
      rfl
  · rw [e]
    exact PySem.W.AllAlike.of fun b b' => by simp [PySem.W.alike, PySem.W.alikeAll]
  · rw [e]
    exact PySem.W.Sortable.tuples fun b => ⟨_, _, rfl⟩
  · intro d hd
    obtain ⟨l, _, rfl⟩ := List.mem_map.mp hd
    rw [lnD_py]
    simp [PyData.depth, PyData.depthAll]
  · rw [asc_lns h1 h2 hn hz hs]
    exact q
/-! ### a row drawn -/
def odds (z : Str) : List D := [.non, .bl true, .int 0, .str "", .str "A", .str "0a", .str "a b", .lst [], .lst [.str "a"], .tup [], .dct [], .str z, .str "a\n", .str "a-"]
theorem odds_vl {z : Str} (hz : z.length ≤ 13) : ∀ x ∈ odds z, Vl x := by
  intro x hx
  simp only [odds, List.mem_cons, List.not_mem_nil, or_false] at hx
  rcases hx with rfl | rfl | rfl | rfl | rfl | rfl | rfl | rfl | rfl | rfl | rfl | rfl | rfl | rfl
  · exact vl_non
  · exact ⟨.atm (.inr (.inl ⟨_, rfl⟩)), sh_no fun s e => by cases e⟩
  · exact ⟨pl_int, sh_no fun s e => by cases e⟩
  · exact ⟨pl_str, sh_str (Nat.le_of_ble_eq_true (by with_unfolding_all rfl))⟩
  · exact ⟨pl_str, sh_str (Nat.le_of_ble_eq_true (by with_unfolding_all rfl))⟩
  · exact ⟨pl_str, sh_str (Nat.le_of_ble_eq_true (by with_unfolding_all rfl))⟩
  · exact ⟨pl_str, sh_str (Nat.le_of_ble_eq_true (by with_unfolding_all rfl))⟩
  · exact ⟨.inr (.inl ⟨[], .inl rfl, by simp, by simp⟩), sh_no fun s e => by cases e⟩
  · exact ⟨.inr (.inl ⟨_, .inl rfl, by simp, fun x hx => by
      have e : x = .str "a" := by simpa using hx
      subst e
      exact pl_str⟩), sh_no fun s e => by cases e⟩
  · exact ⟨.inr (.inl ⟨[], .inr rfl, by simp, by simp⟩), sh_no fun s e => by cases e⟩
  · exact ⟨.inr (.inr (.inl rfl)), sh_no fun s e => by cases e⟩
  · exact ⟨pl_str, sh_str (by omega)⟩
  · exact ⟨pl_str, sh_str (Nat.le_of_ble_eq_true (by with_unfolding_all rfl))⟩
  · exact ⟨pl_str, sh_str (Nat.le_of_ble_eq_true (by with_unfolding_all rfl))⟩
/-- texts of at most 12 signs -/
def Sh12 (ws : List Str) : Prop := ws.length ≤ 500 ∧ ∀ w ∈ ws, w.length ≤ 12
theorem Hs.sh {ys : List Str} (h : Hs ys) (hl : ys.length ≤ 500) : Sh12 ys := ⟨hl, fun y hy => (nmS_len (h.nm y hy)).2⟩
theorem pool_at {ns ys : List Str} {k : Nat} (hk : k < 3) (hn : Sh12 ns) (hy : Sh12 ys) : ∃ ws : List Str, atI [D.lst ((ns ++ ys).map D.str), D.lst (ys.map D.str), D.lst (ys.map D.str)] (k : Int) = some (.lst (ws.map D.str)) ∧ ws.length ≤ 1000 ∧ ∀ w ∈ ws, w.length ≤ 12 := by
  match k, hk with
  | 0, _ => exact ⟨ns ++ ys, rfl, by rw [List.length_append]; have := hn.1; have := hy.1; omega, fun w hw => (List.mem_append.mp hw).elim (hn.2 w) (hy.2 w)⟩
  | 1, _ => exact ⟨ys, rfl, by have := hy.1; omega, hy.2⟩
  | 2, _ => exact ⟨ys, rfl, by have := hy.1; omega, hy.2⟩
theorem str_vl {w : Str} (h : w.length ≤ 1000) : Vl (.str w) := ⟨pl_str, sh_str h⟩

/-! ### told alike -/
theorem pl_ln (z : Ln) : Pl 1 (lnD z) := .inr (.inl ⟨_, .inr rfl, by simp, fun x hx => by
  simp only [List.mem_cons, List.not_mem_nil, or_false] at hx
  rcases hx with rfl | rfl | rfl <;> exact pl_str⟩)
theorem pl_lns {zs : List Ln} (h : zs.length < 1000) : Pl 2 (.lst (zs.map lnD)) := .inr (.inl ⟨_, .inl rfl, by rw [List.length_map]; exact h, fun x hx => by
  obtain ⟨z, _, rfl⟩ := List.mem_map.mp hx
  exact pl_ln z⟩)
theorem pl_strs {ys : List Str} (h : ys.length < 1000) : Pl 1 (.lst (ys.map D.str)) := .inr (.inl ⟨_, .inl rfl, by rw [List.length_map]; exact h, fun x hx => by
  obtain ⟨z, _, rfl⟩ := List.mem_map.mp hx
  exact pl_str⟩)
theorem pl_told {zs : List Ln} (h : zs.length < 1000) : Pl 9 (.tup [.str "told", .lst (zs.map lnD)]) := .inr (.inl ⟨_, .inr rfl, by simp, fun x hx => by
  simp only [List.mem_cons, List.not_mem_nil, or_false] at hx
  rcases hx with rfl | rfl
  · exact pl_str
  · exact (pl_lns h).mono (by decide)⟩)
theorem pl_refused {x : D} (h : Pl 1 x) (C : Str) : Pl 9 (.tup [.str "refused", .str C, x]) := .inr (.inl ⟨_, .inr rfl, by simp, fun y hy => by
  simp only [List.mem_cons, List.not_mem_nil, or_false] at hy
  rcases hy with rfl | rfl | rfl
  · exact pl_str
  · exact pl_str
  · exact h.mono (by decide)⟩)
theorem frz_lst {n m : Nat} {xs : List D} (hl : xs.length < 1000) (h : ∀ x ∈ xs, Pl m (frz n x)) : Pl (m + 2) (frz (n + 1) (.lst xs)) := .inr (.inl ⟨_, .inr rfl, by simp, fun y hy => by
  simp only [List.mem_cons, List.not_mem_nil, or_false] at hy
  rcases hy with rfl | rfl
  · exact pl_str
  · exact .inr (.inl ⟨_, .inr rfl, by rw [List.length_map]; exact hl, fun x hx => by
      obtain ⟨z, hz, rfl⟩ := List.mem_map.mp hx
      exact h z hz⟩)⟩)
theorem frz_tup {n m : Nat} {xs : List D} (hl : xs.length < 1000) (h : ∀ x ∈ xs, Pl m (frz n x)) : Pl (m + 2) (frz (n + 1) (.tup xs)) := .inr (.inl ⟨_, .inr rfl, by simp, fun y hy => by
  simp only [List.mem_cons, List.not_mem_nil, or_false] at hy
  rcases hy with rfl | rfl
  · exact pl_str
  · exact .inr (.inl ⟨_, .inr rfl, by rw [List.length_map]; exact hl, fun x hx => by
      obtain ⟨z, hz, rfl⟩ := List.mem_map.mp hx
      exact h z hz⟩)⟩)
theorem pl_row {w : Rb} (h : VlR w.1) : Pl 2 (rwD w) := by
  have e : ∀ x ∈ [w.1.1, w.1.2.1, w.1.2.2], Pl 1 x := fun x hx => by
    simp only [List.mem_cons, List.not_mem_nil, or_false] at hx
    rcases hx with rfl | rfl | rfl
    · exact h.1.1
    · exact h.2.1.1
    · exact h.2.2.1
  rcases rwD_or w with e2 | e2
  · rw [e2]
    exact .inr (.inl ⟨_, .inr rfl, by simp, e⟩)
  · rw [e2]
    exact .inr (.inl ⟨_, .inl rfl, by simp, e⟩)
/-- a frozen value that is plain at one less: 2 for a list of such -/
theorem frz_up : ∀ {n m : Nat} {d : D}, Pl m d → m ≤ n → frz n d = frz m d
  | n, 0, d, h, _ => by rw [frz_atm h, frz_atm h]
  | 0, m + 1, d, _, hm => by omega
  | n + 1, m + 1, d, h, hm => by
    rcases h with h | ⟨xs, h, hl, he⟩ | rfl | ⟨s, e, rfl, he⟩
    · rw [frz_atm h, frz_atm h]
    · have e2 : xs.map (frz n) = xs.map (frz m) := List.map_congr_left fun x hx => frz_up (he x hx) (by omega)
      rcases h with rfl | rfl
      · show D.tup [.str "list", .tup (xs.map (frz n))] = .tup [.str "list", .tup (xs.map (frz m))]
        rw [e2]
      · show D.tup [.str "tuple", .tup (xs.map (frz n))] = .tup [.str "tuple", .tup (xs.map (frz m))]
        rw [e2]
    · rfl
    · show D.tup [.str "dict", .tup [.tup [_, frz n e]]] = .tup [.str "dict", .tup [.tup [_, frz m e]]]
      rw [frz_up he (by omega)]
theorem frz_v {x : D} (h : Pl 1 x) {n : Nat} (hn : 1 ≤ n) : Pl 3 (frz n x) := by
  rw [frz_up h hn]
  exact Pl.frz h
theorem frz_row {w : Rb} (h : VlR w.1) {n : Nat} (hn : 1 ≤ n) : Pl 5 (frz (n + 1) (rwD w)) := by
  have e : ∀ x ∈ [w.1.1, w.1.2.1, w.1.2.2], Pl 3 (frz n x) := fun x hx => by
    simp only [List.mem_cons, List.not_mem_nil, or_false] at hx
    rcases hx with rfl | rfl | rfl
    · exact frz_v h.1.1 hn
    · exact frz_v h.2.1.1 hn
    · exact frz_v h.2.2.1 hn
  rcases rwD_or w with e2 | e2
  · rw [e2]
    exact frz_tup (by simp) e
  · rw [e2]
    exact frz_lst (by simp) e
/-- an error of these classes, with a plain value -/
def ErOk (e : Str × Str × D) : Prop := Pl 1 e.2.2 ∧ ((e.1 = "BadName" ∧ e.2.1 = "word") ∨ (e.1 = "Taken" ∧ e.2.1 = "word") ∨ (e.1 = "TooMany" ∧ e.2.1 = "bound") ∨ (e.1 = "NoHouse" ∧ e.2.1 = "word") ∨ (e.1 = "SelfLine" ∧ e.2.1 = "word"))
theorem er_bad {x : D} (h : Pl 1 x) : ErOk ("BadName", "word", x) := ⟨h, .inl ⟨rfl, rfl⟩⟩
theorem duePut_er {hs ns : List Str} {l a b : D} {e : Str × Str × D} (hl : Vl l) (ha : Vl a) (hb : Vl b) (h : duePut hs ns l a b = some e) : ErOk e := by
  unfold duePut at h
  split at h
  · split at h
    · split at h
      · unfold duePutS at h
        split at h
        · split at h
          · split at h
            · cases h; exact ⟨pl_str, .inr (.inr (.inr (.inr ⟨rfl, rfl⟩)))⟩
            · split at h
              · cases h; exact ⟨pl_str, .inr (.inl ⟨rfl, rfl⟩)⟩
              · split at h
                · cases h; exact ⟨pl_int, .inr (.inr (.inl ⟨rfl, rfl⟩))⟩
                · cases h
          · cases h; exact ⟨pl_str, .inr (.inr (.inr (.inl ⟨rfl, rfl⟩)))⟩
        · cases h; exact ⟨pl_str, .inr (.inr (.inr (.inl ⟨rfl, rfl⟩)))⟩
      · cases h; exact er_bad hb.1
    · cases h; exact er_bad ha.1
  · cases h; exact er_bad hl.1
/-! ### with_line judged -/

/-! ### a making judged -/
theorem Le.trans {a b c : Mu} (h : Le a b) (h2 : Le b c) : Le a c := fun p u e => h2 p u (h p u e)
theorem Le.rfl' {a : Mu} : Le a a := fun _ _ e => e
theorem runLs_none {hs : List Str} : ∀ {acc : List Ln} {rs : List Rw}, (runLs hs acc rs).1 = none → (runLs hs acc rs).2 = acc ++ rs.map (fun w => mkLn w.1 w.2.1 w.2.2) ∧ ∀ w ∈ rs, ∃ l a b : Str, w = (.str l, .str a, .str b) ∧ a ≠ b
  | acc, [], _ => ⟨by simp [runLs], fun w hw => by simp at hw⟩
  | acc, r :: rs, h => by
    cases e : duePut hs (acc.map (·.1)) r.1 r.2.1 r.2.2 with
    | some e2 =>
      rw [runLs_er e] at h
      cases h
    | none =>
      rw [runLs_no e] at h ⊢
      obtain ⟨h1, h2⟩ := runLs_none h
      refine ⟨by rw [h1, List.map_cons]; simp, fun w hw => ?_⟩
      rcases List.mem_cons.mp hw with rfl | hw
      · obtain ⟨l, a, b, e1, e2, e3, _, _, _, _, _, h4, _, _⟩ := duePut_none e
        obtain ⟨w1, w2, w3⟩ := w
        simp only at e1 e2 e3
        subst e1 e2 e3
        exact ⟨l, a, b, rfl, h4⟩
      · exact h2 w hw
theorem runLs_erOk {hs : List Str} {e : Str × Str × D} : ∀ {acc : List Ln} {rs : List Rw}, (∀ w ∈ rs, VlR w) → (runLs hs acc rs).1 = some e → ErOk e
  | acc, [], _, h => by cases h
  | acc, r :: rs, hv, h => by
    cases e2 : duePut hs (acc.map (·.1)) r.1 r.2.1 r.2.2 with
    | some e3 =>
      rw [runLs_er e2] at h
      cases h
      have v := hv r (List.mem_cons_self ..)
      exact duePut_er v.1 v.2.1 v.2.2 e2
    | none =>
      rw [runLs_no e2] at h
      exact runLs_erOk (fun w hw => hv w (List.mem_cons_of_mem _ hw)) h
theorem webE_erOk {hs : List D} {rs : List Rw} {n : Nat} {e : Str × Str × D} (hr : Row n hs) (hv : ∀ w ∈ rs, VlR w) (h : webE hs rs = some e) : ErOk e := by
  unfold webE at h
  rcases due_mem (seen := []) (xs := hs) with e1 | ⟨x, hx, e1 | e1⟩ | e1
  · rw [e1] at h
    exact runLs_erOk hv h
  · rw [e1] at h
    cases h
    exact er_bad (hr.2 x hx).1
  · rw [e1] at h
    cases h
    exact ⟨(hr.2 x hx).1, .inr (.inl ⟨rfl, rfl⟩)⟩
  · rw [e1] at h
    cases h
    exact ⟨pl_int, .inr (.inr (.inl ⟨rfl, rfl⟩))⟩
theorem webE_none {hs : List D} {rs : List Rw} (h : webE hs rs = none) : due [] hs = .ok ∧ (runLs (hs.map strOf) [] rs).1 = none := by
  unfold webE at h
  cases e : due [] hs with
  | ok =>
    rw [e] at h
    exact ⟨rfl, h⟩
  | _ =>
    rw [e] at h
    cases h

/-! ### the law -/
theorem due_fine : ∀ {seen r : List Str} {xs : List D}, (seen ++ r).Nodup → (seen ++ r).length ≤ 32 → (∀ y ∈ r, nmS y) → due seen (r.map D.str ++ xs) = due (seen ++ r) xs
  | seen, [], xs, _, _, _ => by simp
  | seen, z :: r, xs, hn, hl, hm => by
    have hz : nmD (.str z) = true := hm z (List.mem_cons_self ..)
    have h1 : z ∉ seen := fun h => (List.nodup_append.mp hn).2.2 z h z (List.mem_cons_self ..) rfl
    have h2 : ¬ 32 ≤ seen.length := by
      rw [List.length_append, List.length_cons] at hl
      omega
    rw [List.map_cons, List.cons_append, due_str hz, if_neg h1, if_neg h2, due_fine (seen := seen ++ [z]) (by simpa using hn) (by simpa using hl) fun y hy => hm y (List.mem_cons_of_mem _ hy)]
    simp
theorem strOf_map (ys : List Str) : (ys.map D.str).map strOf = ys := by
  rw [List.map_map]
  exact (List.map_congr_left (g := id) fun _ _ => rfl).trans (List.map_id _)
theorem due_ys {ys : List Str} (h : Hs ys) (hl : ys.length ≤ 32) : due [] (ys.map D.str) = .ok := by
  have := due_fine (seen := []) (r := ys) (xs := []) (by simpa using h.nd) (by simpa using hl) h.nm
  rw [List.append_nil] at this
  exact this
theorem due_again {ys : List Str} {y : Str} (h : Hs ys) (hl : ys.length ≤ 32) (hy : y ∈ ys) : due [] (ys.map D.str ++ [.str y]) = .taken (.str y) := by
  rw [due_fine (seen := []) (r := ys) (xs := [.str y]) (by simpa using h.nd) (by simpa using hl) h.nm, List.nil_append, due_str (h.nm y hy), if_pos hy]
theorem webE_ys {ys : List Str} (h : Hs ys) (hl : ys.length ≤ 32) (rs : List Rw) : webE (ys.map D.str) rs = (runLs ys [] rs).1 := by
  rw [webE_ok (due_ys h hl), strOf_map]
theorem webE_again {ys : List Str} {y : Str} (h : Hs ys) (hl : ys.length ≤ 32) (hy : y ∈ ys) (rs : List Rw) : webE (ys.map D.str ++ [.str y]) rs = takenE (.str y) := by
  unfold webE
  rw [due_again h hl hy]
  rfl
theorem mkLn_hd {z : Ln} (h : z.2.1.cps.toList < z.2.2.cps.toList) (sw tp : Bool) : mkLn (hndR (z, sw, tp)).1.1 (hndR (z, sw, tp)).1.2.1 (hndR (z, sw, tp)).1.2.2 = z := by
  have h2 : ¬ z.2.2.cps.toList < z.2.1.cps.toList := fun h2 => ne_of_lt h (leS_anti (List.le_of_lt h) (List.le_of_lt h2))
  cases sw with
  | true =>
    show (if ltS z.2.1 z.2.2 = true then _ else _) = _
    unfold ltS
    rw [decide_eq_true h, if_pos rfl]
    rfl
  | false =>
    show (if ltS z.2.2 z.2.1 = true then _ else _) = _
    unfold ltS
    rw [decide_eq_false h2, if_neg Bool.false_ne_true]
    rfl
theorem due_hd {ys : List Str} {acc : List Ln} {z : Ln} (hy : Hs ys) (h1 : nmS z.1) (h2 : z.2.1 ∈ ys) (h3 : z.2.2 ∈ ys) (h4 : z.2.1.cps.toList < z.2.2.cps.toList) (h5 : z.1 ∉ acc.map (·.1)) (h6 : acc.length < 96) (sw tp : Bool) : duePut ys (acc.map (·.1)) (hndR (z, sw, tp)).1.1 (hndR (z, sw, tp)).1.2.1 (hndR (z, sw, tp)).1.2.2 = none := by
  have hne := ne_of_lt h4
  have n1 : nmD (.str z.1) = true := h1
  have n2 : nmD (.str z.2.1) = true := hy.nm _ h2
  have n3 : nmD (.str z.2.2) = true := hy.nm _ h3
  have h6 : ¬ 96 ≤ (acc.map (·.1)).length := by rw [List.length_map]; omega
  cases sw with
  | true =>
    show duePut ys (acc.map (·.1)) (.str z.1) (.str z.2.2) (.str z.2.1) = none
    rw [duePut_str n1 n3 n2]
    unfold duePutS
    rw [if_pos h3, if_pos h2, if_neg (Ne.symm hne), if_neg h5, if_neg h6]
  | false =>
    show duePut ys (acc.map (·.1)) (.str z.1) (.str z.2.1) (.str z.2.2) = none
    rw [duePut_str n1 n2 n3]
    unfold duePutS
    rw [if_pos h2, if_pos h3, if_neg hne, if_neg h5, if_neg h6]
theorem runLs_hd {ys : List Str} (hy : Hs ys) : ∀ (hd : List (Ln × Bool × Bool)) (acc : List Ln), LnOk ys (acc ++ hd.map (·.1)) → runLs ys acc ((hd.map hndR).map (·.1)) = (none, acc ++ hd.map (·.1))
  | [], acc, _ => by simp [runLs]
  | (z, sw, tp) :: r, acc, h => by
    have hz : z ∈ acc ++ ((z, sw, tp) :: r).map (·.1) := by simp
    have hn := h.nd
    rw [List.map_append] at hn
    have h5 : z.1 ∉ acc.map (·.1) := fun hm => (List.nodup_append.mp hn).2.2 z.1 hm z.1 (by simp) rfl
    have hl := h.len
    rw [List.length_append, List.length_map, List.length_cons] at hl
    rw [List.map_cons, List.map_cons, runLs_no (due_hd hy (h.nm z hz) (h.inn z hz).1 (h.inn z hz).2 (h.lt z hz) h5 (by omega) sw tp), mkLn_hd (h.lt z hz), runLs_hd hy r (acc ++ [z]) (by simpa using h)]
    simp
theorem runLs_hd0 {ys : List Str} {ls : List Ln} {hd : List (Ln × Bool × Bool)} (hy : Hs ys) (h : LnOk ys ls) (e : hd.map (·.1) = ls) : runLs ys [] ((hd.map hndR).map (·.1)) = (none, ls) := by
  have := runLs_hd hy hd [] (by rw [List.nil_append, e]; exact h)
  rw [List.nil_append, e] at this
  exact this
theorem nmS_vl2 {w : Str} (h : nmS w) : Vl (.str w) := str_vl (by have := (nmS_len h).2; omega)
theorem hd_vl {ys : List Str} {ls : List Ln} {hd : List (Ln × Bool × Bool)} (hy : Hs ys) (h : LnOk ys ls) (e : hd.map (·.1) = ls) : ∀ w ∈ hd.map hndR, VlR w.1 := by
  intro w hw
  obtain ⟨⟨z, sw, tp⟩, hx, rfl⟩ := List.mem_map.mp hw
  have hz : z ∈ ls := by rw [← e]; exact List.mem_map.mpr ⟨_, hx, rfl⟩
  have n1 := nmS_vl2 (h.nm z hz)
  have n2 := nmS_vl2 (hy.nm _ (h.inn z hz).1)
  have n3 := nmS_vl2 (hy.nm _ (h.inn z hz).2)
  cases sw with
  | true => exact ⟨n1, n3, n2⟩
  | false => exact ⟨n1, n2, n3⟩
/-- the lines as they stand -/
def asIs (ls : List Ln) : List (Ln × Bool × Bool) := ls.map fun z => (z, false, true)
theorem asIs_fst (ls : List Ln) : (asIs ls).map (·.1) = ls := by
  unfold asIs
  rw [List.map_map]
  exact (List.map_congr_left (g := id) fun _ _ => rfl).trans (List.map_id _)
theorem asIs_rw (ls : List Ln) : ((asIs ls).map hndR).map rwD = ls.map lnD := by
  unfold asIs
  rw [List.map_map, List.map_map]
  rfl
theorem srt_perm {ys zs : List Str} (h : Srt (ys.map D.str) zs) : zs.Perm ys := by
  obtain ⟨ss, e, hp, _⟩ := h
  have e2 := congrArg (List.map strOf) e
  rw [strOf_map, strOf_map] at e2
  rw [e2]
  exact hp
theorem hs_row {ys : List Str} (h : Hs ys) (hl : ys.length ≤ 32) : Row 800 (ys.map D.str) := ⟨by rw [List.length_map]; omega, fun x hx => by
  obtain ⟨y, hy, rfl⟩ := List.mem_map.mp hx
  exact nmS_vl2 (h.nm y hy)⟩
theorem ins_rw {ws : List Rb} {k : Nat} {w : Rb} : (ws.map rwD).take k ++ [rwD w] ++ (ws.map rwD).drop k = (ws.take k ++ [w] ++ ws.drop k).map rwD := by
  rw [List.map_append, List.map_append, List.map_take, List.map_drop]
  rfl
theorem ins_mem {ws : List Rb} {k : Nat} {w : Rb} (h : ∀ w ∈ ws, VlR w.1) (hw : VlR w.1) : ∀ u ∈ ws.take k ++ [w] ++ ws.drop k, VlR u.1 := by
  intro u hu
  rcases List.mem_append.mp hu with hu | hu
  · rcases List.mem_append.mp hu with hu | hu
    · exact h u (List.mem_of_mem_take hu)
    · have e : u = w := by simpa using hu
      subst e
      exact hw
  · exact h u (List.mem_of_mem_drop hu)
theorem ins_len {ws : List Rb} {k : Nat} {w : Rb} : (ws.take k ++ [w] ++ ws.drop k).length = ws.length + 1 := by
  rw [List.length_append, List.length_append, List.length_take, List.length_drop]
  simp only [List.length_cons, List.length_nil]
  omega

/-! ### is a line of it -/
/-! ### what is due of a search -/
def noLineE (x : D) : Er := some ("NoLine", "word", x)
def firstBad : List D → Option D
  | [] => none
  | x :: r => if nmD x = true then firstBad r else some x
def firstOut (ys : List Str) : List D → Option D
  | [] => none
  | x :: r => if strOf x ∈ ys then firstOut ys r else some x
def dueS (ys ns : List Str) (ws : List D) (wo : D) : Er := match firstBad ws with
  | some x => badE x
  | none => if nonB wo = true ∨ nmD wo = true then (match firstOut ys ws with
    | some x => noHouseE x
    | none => if nonB wo = true ∨ strOf wo ∈ ns then none else noLineE wo) else badE wo
theorem firstBad_ok {x : D} {r : List D} (h : nmD x = true) : firstBad (x :: r) = firstBad r := by
  rw [firstBad, if_pos h]
theorem firstBad_no {x : D} {r : List D} (h : nmD x = false) : firstBad (x :: r) = some x := by
  rw [firstBad, if_neg (nf h)]
theorem firstBad_all : ∀ {ws : List D}, firstBad ws = none → ∀ x ∈ ws, nmD x = true
  | [], _, x, hx => by simp at hx
  | y :: r, h, x, hx => by
    cases e : nmD y with
    | false =>
      rw [firstBad_no e] at h
      cases h
    | true =>
      rw [firstBad_ok e] at h
      rcases List.mem_cons.mp hx with rfl | hx
      · exact e
      · exact firstBad_all h x hx
theorem firstOut_all {ys : List Str} : ∀ {ws : List D}, firstOut ys ws = none → ∀ x ∈ ws, strOf x ∈ ys
  | [], _, x, hx => by simp at hx
  | y :: r, h, x, hx => by
    by_cases e : strOf y ∈ ys
    · rw [firstOut, if_pos e] at h
      rcases List.mem_cons.mp hx with rfl | hx
      · exact e
      · exact firstOut_all h x hx
    · rw [firstOut, if_neg e] at h
      cases h
theorem dueS_bad {ys ns : List Str} {ws : List D} {wo x : D} (h : firstBad ws = some x) : dueS ys ns ws wo = badE x := by
  unfold dueS
  rw [h]
theorem dueS_badL {ys ns : List Str} {ws : List D} {wo : D} (h : firstBad ws = none) (h1 : nonB wo = false) (h2 : nmD wo = false) : dueS ys ns ws wo = badE wo := by
  unfold dueS
  rw [h]
  show (if _ then _ else _) = _
  rw [if_neg (fun e => by rw [h1, h2] at e; simp at e)]
theorem dueS_out {ys ns : List Str} {ws : List D} {wo x : D} (h : firstBad ws = none) (h1 : nonB wo = true ∨ nmD wo = true) (h2 : firstOut ys ws = some x) : dueS ys ns ws wo = noHouseE x := by
  unfold dueS
  rw [h]
  show (if _ then _ else _) = _
  rw [if_pos h1, h2]
theorem dueS_line {ys ns : List Str} {ws : List D} {wo : D} (h : firstBad ws = none) (h1 : nonB wo = true ∨ nmD wo = true) (h2 : firstOut ys ws = none) : dueS ys ns ws wo = if nonB wo = true ∨ strOf wo ∈ ns then none else noLineE wo := by
  unfold dueS
  rw [h]
  show (if _ then _ else _) = _
  rw [if_pos h1, h2]
theorem dueS_none {ys ns : List Str} {ws : List D} {wo : D} (h : dueS ys ns ws wo = none) : (∀ x ∈ ws, nmD x = true ∧ strOf x ∈ ys) ∧ (nonB wo = true ∨ (nmD wo = true ∧ strOf wo ∈ ns)) := by
  unfold dueS at h
  split at h
  · cases h
  · rename_i h0
    split at h
    · rename_i h1
      split at h
      · cases h
      · rename_i h2
        split at h
        · rename_i h3
          refine ⟨fun x hx => ⟨firstBad_all h0 x hx, firstOut_all h2 x hx⟩, ?_⟩
          rcases h3 with h3 | h3
          · exact .inl h3
          · rcases h1 with h1 | h1
            · exact .inl h1
            · exact .inr ⟨h1, h3⟩
        · cases h
    · cases h
theorem dueS_congr {ys ys' ns ns' : List Str} {ws : List D} {wo : D} (h1 : ∀ t, t ∈ ys ↔ t ∈ ys') (h2 : ∀ t, t ∈ ns ↔ t ∈ ns') : dueS ys ns ws wo = dueS ys' ns' ws wo := by
  have e : ∀ ws, firstOut ys ws = firstOut ys' ws := fun ws => by
    induction ws with
    | nil => rfl
    | cons x r ih => rw [firstOut, firstOut, ih]; simp only [h1]
  unfold dueS
  simp only [e, h2]
theorem non_or (wo : D) : (nonB wo = true ∧ wo = .non) ∨ nonB wo = false := by
  cases wo <;> first | exact .inl ⟨rfl, rfl⟩ | exact .inr rfl

/-! ### who is next to whom -/
def isW (n : Str) : D → Bool
  | .str w => decide (n = w)
  | _ => false
def less (zs : List Ln) (wo : D) : List Ln := zs.filter fun z => !isW z.1 wo
def NoS (wo : D) : Prop := wo = .non ∨ ∃ w, wo = .str w
theorem x_neW {n : Str} {wo : D} {μ : Mu} {Q : QE} (h : NoS wo) (q : Q (.bl (!isW n wo)) μ) : ne2 (.str n) wo μ Q := by
  rcases h with rfl | ⟨w, rfl⟩
  · exact q
  · exact q
theorem less_app {zs : List Ln} {z : Ln} {wo : D} : less (zs ++ [z]) wo = less zs wo ++ if isW z.1 wo = true then [] else [z] := by
  unfold less
  rw [List.filter_append]
  cases h : isW z.1 wo <;> simp [h]
theorem less_sub {zs : List Ln} {wo : D} : ∀ z ∈ less zs wo, z ∈ zs := fun z hz => (List.mem_filter.mp hz).1
theorem less_len {zs : List Ln} {wo : D} : (less zs wo).length ≤ zs.length := List.length_filter_le ..
def nb1 (z : Ln) (h : Str) : List (Str × Str) := if z.2.1 = h then [(z.1, z.2.2)] else if z.2.2 = h then [(z.1, z.2.1)] else []
def nbs (zs : List Ln) (h : Str) : List (Str × Str) := zs.flatMap fun z => nb1 z h
theorem nbs_app {zs : List Ln} {z : Ln} {h : Str} : nbs (zs ++ [z]) h = nbs zs h ++ nb1 z h := by
  unfold nbs
  simp
theorem nbs_len : ∀ (zs : List Ln) (h : Str), (nbs zs h).length ≤ zs.length
  | [], _ => Nat.le_refl _
  | z :: zs, h => by
    have ih := nbs_len zs h
    have e : nbs (z :: zs) h = nb1 z h ++ nbs zs h := rfl
    have e1 : (nb1 z h).length ≤ 1 := by
      unfold nb1
      split
      · simp
      · split <;> simp
    rw [e, List.length_append, List.length_cons]
    omega
def nbD (p : Str × Str) : D := .tup [.str p.1, .str p.2]
def adjL (zs : List Ln) (h : Str) : List D := (nbs zs h).map nbD
def adjD (ys : List Str) (zs : List Ln) : List (Key × D) := ys.map fun h => (ks h, .lst (adjL zs h))
theorem tab_endG {μ μ' : Mu} {f : Str → List D} {as : List (Str × Addr)} {T : Addr} {Q : QE} (t : Tab μ f as μ') (hT : μ' T = some (.dct (refs as))) (hT0 : μ T = none) (q : Q (.dct ((as.map (·.1)).map fun h => (ks h, .lst (f h)))) μ) : Upd Q (.ref T) μ' := by
  have e2 : (as.map fun a => (ks a.1, a.2, f a.1)).map (fun k => (k.1, D.lst k.2.2)) = (as.map (·.1)).map fun h => (ks h, .lst (f h)) := by
    rw [List.map_map, List.map_map]
    rfl
  have e3 : (as.map fun a => (ks a.1, a.2, f a.1)).map (fun k => k.2.1) = as.map (·.2) := by
    rw [List.map_map]
    rfl
  refine .join (.dctL (ks := as.map fun a => (ks a.1, a.2, f a.1)) (by rw [hT, List.map_map]; rfl) (by rw [e3]; exact t.nd) (fun k hk => ?_) ?_)
  · obtain ⟨a, ha, rfl⟩ := List.mem_map.mp hk
    exact t.at_ a ha
  · rw [e2, e3]
    refine .drop (μ' := μ) (fun b o e => ?_) q
    have hb : b ∉ as.map (·.2) := fun hb => by
      obtain ⟨a, ha, rfl⟩ := List.mem_map.mp hb
      rw [t.fresh a ha] at e
      cases e
    have hbT : b ≠ T := fun z => by rw [z, hT0] at e; cases e
    unfold mdel
    rw [if_neg hbT, mdels_ne hb]
    exact t.le b o e
def sp_lines_by_house_plain : Sp2 := fun ds μ Q _ => ∃ (ys : List Str) (ps zs : List Ln) (wo : D), ds = [.ins "Web" (webF ys ps zs), wo] ∧ NoS wo ∧ ys.Nodup ∧ ys.length ≤ 1000 ∧ zs.length ≤ 1000 ∧ (∀ z ∈ zs, z.2.1 ∈ ys ∧ z.2.2 ∈ ys ∧ z.2.1 ≠ z.2.2) ∧ Q (.dct (adjD ys (less zs wo))) μ
theorem len_lines_by_house_plain (ds : List D) (μ : Mu) (Q : QE) (ex : Ex2) (h : sp_lines_by_house_plain ds μ Q ex) : ds.length = 2 := by
  obtain ⟨ys, ps, zs, wo, rfl, _⟩ := h
  rfl
theorem pure_lines_by_house_plain (ds : List D) (μ : Mu) (Q : QE) (ex : Ex2) (h : sp_lines_by_house_plain ds μ Q ex) : t_lines_by_house_plain sp_Web_lines sp_Web_houses (ends Q) (startD ["a", "b", "c", "d", "e", "f", "g"] ds) μ := by
  obtain ⟨hs, ps, zs, wo, rfl, hwo, hn, hl, hzl, hz, q⟩ := h
  have hsz := sizeLine_eq
  unfold t_lines_by_house_plain
  show jSeq _ _ (ends Q) [some _, some _, none, none, none, none, none] μ
  generalize hweb : webF hs ps zs = wf
  walk_at "js"
  subst hweb
  refine ⟨⟨_, .inl rfl⟩, hs, ps, zs, rfl, .of ?_⟩
  walk_at "js"
  refine dc_inv (fun r acc μ' => ∃ (as : List (Str × Addr)) (rs : List Str), hs = as.map (·.1) ++ rs ∧ r = rs.map D.str ∧ acc = refs as ∧ Tab μ (adjL (less [] wo)) as μ') (fun _ _ _ _ => trivial) ?_ ?_ _ _ _ ⟨[], hs, rfl, rfl, rfl, fun _ _ e => e, by simp, by simp, by simp⟩
  · rintro x r acc μ' ⟨as, rs, h1, h2, rfl, t⟩ N hN
    cases rs with
    | nil => cases h2
    | cons y rs =>
      rw [List.map_cons] at h2
      injection h2 with e1 e2
      subst e1 e2
      have hy : y ∉ as.map (·.1) := fun hy => by
        rw [h1] at hn
        exact (List.nodup_append.mp hn).2.2 y hy y (List.mem_cons_self ..) rfl
      have hal : as.length ≤ hs.length := by
        have := congrArg List.length h1
        rw [List.length_append, List.length_map] at this
        omega
      show kName 6 (.str y) _ _ _
      walk_at "js"
      refine w_true ?_
      walk_at "js"
      refine .m fun p hp => ⟨ks y, rfl, by unfold refs; rw [List.length_map]; omega, ?_⟩
      have hv : valD (refs as) (ks y) = none := by
        have := kys_val (refs_keys as) y
        rw [decide_eq_false hy] at this
        simpa using this
      rw [keys_put_new hv]
      exact hN _ _ ⟨as ++ [(y, p)], rs, by rw [h1, List.map_append]; simp, rfl, by simp [refs], tab_new t hp⟩
  · rintro acc μ' ⟨as, rs, h1, h2, rfl, t⟩
    cases rs with
    | cons y rs => cases h2
    | nil =>
    rw [List.append_nil] at h1
    subst h1
    refine .m fun T hT => ?_
    have hT0 : μ T = none := by
      cases e : μ T with
      | none => rfl
      | some u => rw [t.le _ _ e] at hT; cases hT
    have t := tab_T (o := .dct (refs as)) t hT
    walk_at "js"
    refine ⟨⟨_, .inl rfl⟩, as.map (·.1), ps, zs, rfl, .of ?_⟩
    walk_at "js"
    refine loop_inv (fun r δ μ' => ∃ (dn rs : List Ln) (o1 o2 o3 : Option D), zs = dn ++ rs ∧ r = rs.map lnD ∧ Tab μ (adjL (less dn wo)) as μ' ∧ μ' T = some (.dct (refs as)) ∧ δ = [some (.ins "Web" (webF (as.map (·.1)) ps zs)), some wo, some (.ref T), o1, o2, o3, none]) (fun _ _ _ _ => trivial) ?_ ?_ _ _ _ ⟨[], zs, none, none, none, rfl, rfl, t, mup_same, rfl⟩
    · rintro x r δ μ' ⟨dn, rs, o1, o2, o3, h1, h2, t, hT, rfl⟩ QN hN
      cases rs with
      | nil => cases h2
      | cons z rs =>
        rw [List.map_cons] at h2
        injection h2 with e1 e2
        subst e1 e2
        obtain ⟨z1, z2, z3⟩ := hz z (by rw [h1]; simp)
        obtain ⟨⟨a1, p1⟩, m1, e1⟩ := List.mem_map.mp z1
        obtain ⟨⟨a2, p2⟩, m2, e2⟩ := List.mem_map.mp z2
        have e1 : a1 = z.2.1 := e1
        have e2 : a2 = z.2.2 := e2
        subst e1 e2
        have hdl : dn.length ≤ zs.length := by
          have := congrArg List.length h1
          rw [List.length_append] at this
          omega
        have hll := less_len (zs := dn) (wo := wo)
        show kTup 3 _ (.tup [.str z.1, .str z.2.1, .str z.2.2]) _ _ _
        walk_at "js"
        refine x_neW hwo ?_
        refine ⟨_, rfl, ?_⟩
        cases hw : isW z.1 wo with
        | true =>
          refine w_false ?_
          walk_at "js"
          exact hN _ _ ⟨dn ++ [z], rs, _, _, _, by rw [h1]; simp, rfl, by rw [less_app, if_pos hw, List.append_nil]; exact t, hT, rfl⟩
        | false =>
        refine w_true ?_
        have l1 := nbs_len (less dn wo) z.2.1
        have l2 := nbs_len (less dn wo) z.2.2
        have k1 : (adjL (less dn wo) z.2.1).length = (nbs (less dn wo) z.2.1).length := List.length_map ..
        have k2 : (adjL (less dn wo) z.2.2).length = (nbs (less dn wo) z.2.2).length := List.length_map ..
        have w1 : μ' p1 = some (.lst (adjL (less dn wo) z.2.1)) := t.at_ _ m1
        obtain ⟨g, g1, g2⟩ : ∃ g : Str → List D, g z.2.1 = adjL (less dn wo) z.2.1 ++ [nbD (z.1, z.2.2)] ∧ ∀ x, x ≠ z.2.1 → g x = adjL (less dn wo) x := ⟨fun h => if h = z.2.1 then adjL (less dn wo) h ++ [nbD (z.1, z.2.2)] else adjL (less dn wo) h, if_pos rfl, fun x hx => if_neg hx⟩
        have t1 := tab_put (g := g) t m1 hn g2
        rw [g1] at t1
        have w2 := t1.at_ _ m2
        rw [show ((z.2.2, p2) : Str × Addr).1 = z.2.2 from rfl, g2 _ (Ne.symm z3)] at w2
        have ea : ∀ x, adjL (less (dn ++ [z]) wo) x = adjL (less dn wo) x ++ (nb1 z x).map nbD := fun x => by
          rw [less_app, hw, if_neg Bool.false_ne_true]
          unfold adjL
          rw [nbs_app, List.map_append]
        have t2 := tab_put (g := adjL (less (dn ++ [z]) wo)) t1 m2 hn (fun x hx => by
          rw [ea]
          unfold nb1
          by_cases e : x = z.2.1
          · rw [if_pos e.symm, e, g1]
            rfl
          · rw [if_neg (fun h => e h.symm), if_neg (fun h => hx h.symm), g2 _ e]
            simp)
        have e5 : adjL (less (dn ++ [z]) wo) z.2.2 = adjL (less dn wo) z.2.2 ++ [nbD (z.1, z.2.1)] := by
          rw [ea]
          unfold nb1
          rw [if_neg z3, if_pos rfl]
          rfl
        rw [e5] at t2
        have n1 : T ≠ p1 := fun e => by
          rw [← e, hT] at w1
          cases w1
        have n2 : T ≠ p2 := fun e => by
          have w2 : (mup μ' p1 _) p2 = _ := w2
          rw [← e, mup_ne n1, hT] at w2
          cases w2
        walk_at "js"
        refine x_ixDA (.m hT) (kk := ks z.2.1) rfl (refs_val hn m1) ?_
        refine x_tyM w1 ?_
        walk_at "js"
        refine x_append w1 (by omega) ?_
        walk_at "js"
        refine x_ixDA (.m ((mup_ne n1).trans hT)) (kk := ks z.2.2) rfl (refs_val hn m2) ?_
        refine x_tyM w2 ?_
        walk_at "js"
        refine x_append w2 (by omega) ?_
        exact hN _ _ ⟨dn ++ [z], rs, _, _, _, by rw [h1]; simp, rfl, t2, (mup_ne n2).trans ((mup_ne n1).trans hT), rfl⟩
    · rintro δ μ' ⟨dn, rs, o1, o2, o3, h1, h2, t, hT, rfl⟩
      cases rs with
      | cons y rs => cases h2
      | nil =>
      rw [List.append_nil] at h1
      subst h1
      walk_at "js"
      exact tab_endG t hT hT0 q

/-! ### steps counted -/
abbrev Ct := Str × Nat
def kC (c : Ct) : Key × D := (ks c.1, .int c.2)
def Adj (zs : List Ln) (a b : Str) : Prop := ∃ n, (n, b) ∈ nbs zs a
theorem adj_iff {zs : List Ln} {a b : Str} (hz : ∀ z ∈ zs, z.2.1 ≠ z.2.2) : Adj zs a b ↔ ∃ z ∈ zs, (z.2.1 = a ∧ z.2.2 = b) ∨ (z.2.2 = a ∧ z.2.1 = b) := by
  constructor
  · rintro ⟨n, h⟩
    obtain ⟨z, hz1, h⟩ := List.mem_flatMap.mp h
    refine ⟨z, hz1, ?_⟩
    unfold nb1 at h
    split at h
    · rename_i e
      have h : (n, b) = (z.1, z.2.2) := by simpa using h
      cases h
      exact .inl ⟨e, rfl⟩
    · split at h
      · rename_i e
        have h : (n, b) = (z.1, z.2.1) := by simpa using h
        cases h
        exact .inr ⟨e, rfl⟩
      · simp at h
  · rintro ⟨z, hz1, h⟩
    refine ⟨z.1, List.mem_flatMap.mpr ⟨z, hz1, ?_⟩⟩
    unfold nb1
    rcases h with ⟨rfl, rfl⟩ | ⟨rfl, rfl⟩
    · rw [if_pos rfl]
      simp
    · rw [if_neg (hz z hz1), if_pos rfl]
      simp
/-- breadth first: counts cs, in the order of the queue; the first i are done -/
structure Bf (ys : List Str) (zs : List Ln) (h : Str) (cs : List Ct) (i : Nat) : Prop where
  nd : (cs.map (·.1)).Nodup
  sub : ∀ c ∈ cs, c.1 ∈ ys
  head : cs[0]? = some (h, 0)
  par : ∀ j, 0 < j → ∀ c, cs[j]? = some c → ∃ d ∈ cs, Adj zs d.1 c.1 ∧ c.2 = d.2 + 1
  mono : cs.Pairwise fun a b => a.2 ≤ b.2
  top : ∀ c ∈ cs, ∀ d, cs[i]? = some d → c.2 ≤ d.2 + 1
  done : ∀ k, k < i → ∀ c, cs[k]? = some c → ∀ b, Adj zs c.1 b → ∃ d ∈ cs, d.1 = b ∧ d.2 ≤ c.2 + 1
theorem Bf.start {ys : List Str} {zs : List Ln} {h : Str} (hh : h ∈ ys) : Bf ys zs h [(h, 0)] 0 := ⟨by simp, by simp [hh], rfl, fun j hj c hc => by
  match j, hj with
  | j + 1, _ => simp at hc, by simp, fun c hc d hd => by
    have e : c = (h, 0) := by simpa using hc
    subst e
    exact Nat.zero_le _, fun k hk => by omega⟩
theorem Bf.app {ys : List Str} {zs : List Ln} {h a b : Str} {n i : Nat} {cs : List Ct} (B : Bf ys zs h cs i) (hi : cs[i]? = some (a, n)) (hb : b ∈ ys) (hn : b ∉ cs.map (·.1)) (hab : Adj zs a b) : Bf ys zs h (cs ++ [(b, n + 1)]) i := by
  have hil : i < cs.length := (List.getElem?_eq_some_iff.mp hi).1
  have ha : (a, n) ∈ cs := List.mem_of_getElem? hi
  refine ⟨?_, fun c hc => ?_, ?_, fun j hj c hc => ?_, ?_, fun c hc d hd => ?_, fun k hk c hc x hx => ?_⟩
  · rw [List.map_append]
    refine List.nodup_append.mpr ⟨B.nd, by simp, fun x hx y hy => ?_⟩
    have e : y = b := by simpa using hy
    subst e
    exact fun e => hn (e ▸ hx)
  · rcases List.mem_append.mp hc with hc | hc
    · exact B.sub c hc
    · have e : c = (b, n + 1) := by simpa using hc
      subst e
      exact hb
  · rw [List.getElem?_append_left (by omega)]
    exact B.head
  · by_cases hjl : j < cs.length
    · rw [List.getElem?_append_left hjl] at hc
      obtain ⟨d, h1, h2, h3⟩ := B.par j hj c hc
      exact ⟨d, List.mem_append.mpr (.inl h1), h2, h3⟩
    · rw [List.getElem?_append_right (by omega)] at hc
      have e : c = (b, n + 1) := by
        have := List.mem_of_getElem? hc
        simpa using this
      subst e
      exact ⟨(a, n), List.mem_append.mpr (.inl ha), hab, rfl⟩
  · refine List.pairwise_append.mpr ⟨B.mono, by simp, fun c hc d hd => ?_⟩
    have e : d = (b, n + 1) := by simpa using hd
    subst e
    exact B.top c hc _ hi
  · rw [List.getElem?_append_left hil, hi] at hd
    cases hd
    rcases List.mem_append.mp hc with hc | hc
    · exact B.top c hc _ hi
    · have e : c = (b, n + 1) := by simpa using hc
      subst e
      exact Nat.le_refl _
  · rw [List.getElem?_append_left (by omega)] at hc
    obtain ⟨d, h1, h2, h3⟩ := B.done k hk c hc x hx
    exact ⟨d, List.mem_append.mpr (.inl h1), h2, h3⟩
theorem Bf.next {ys : List Str} {zs : List Ln} {h a : Str} {n i : Nat} {cs : List Ct} (B : Bf ys zs h cs i) (hi : cs[i]? = some (a, n)) (hd : ∀ b, Adj zs a b → ∃ d ∈ cs, d.1 = b ∧ d.2 ≤ n + 1) : Bf ys zs h cs (i + 1) := by
  refine ⟨B.nd, B.sub, B.head, B.par, B.mono, fun c hc d hd2 => ?_, fun k hk c hc b hb => ?_⟩
  · have h1 := B.top c hc _ hi
    obtain ⟨l1, e1⟩ := List.getElem?_eq_some_iff.mp hi
    obtain ⟨l2, e2⟩ := List.getElem?_eq_some_iff.mp hd2
    have := List.pairwise_iff_getElem.mp B.mono i (i + 1) l1 l2 (by omega)
    rw [e1, e2] at this
    have h1 : c.2 ≤ n + 1 := h1
    have this : n ≤ d.2 := this
    omega
  · by_cases e : k = i
    · subst e
      rw [hi] at hc
      cases hc
      exact hd b hb
    · exact B.done k (by omega) c hc b hb
theorem Bf.len {ys : List Str} {zs : List Ln} {h : Str} {i : Nat} {cs : List Ct} (B : Bf ys zs h cs i) : cs.length ≤ ys.length := by
  have := nodup_sub (m := ys) B.nd fun x hx => by
    obtain ⟨c, hc, rfl⟩ := List.mem_map.mp hx
    exact B.sub c hc
  rw [List.length_map] at this
  exact this
theorem kC_keys (cs : List Ct) : (cs.map kC).map (·.1) = (cs.map (·.1)).map ks := by
  rw [List.map_map, List.map_map]
  rfl
theorem kC_val : ∀ {cs : List Ct} {c : Ct}, (cs.map (·.1)).Nodup → c ∈ cs → valD (cs.map kC) (ks c.1) = some (.int c.2)
  | p :: r, c, hn, hc => by
    rw [List.map_cons, List.nodup_cons] at hn
    rw [List.map_cons]
    rcases List.mem_cons.mp hc with rfl | hc
    · exact valD_pos rfl
    · have hne : ¬ (kC p).1 = ks c.1 := fun e => hn.1 (by
        have e : p.1 = c.1 := Sum.inr.inj e
        rw [e]
        exact List.mem_map.mpr ⟨c, hc, rfl⟩)
      rw [valD_neg hne]
      exact kC_val hn.2 hc
theorem kC_put {cs : List Ct} {b : Str} {n : Nat} (h : b ∉ cs.map (·.1)) : putKD (cs.map kC) (ks b) (.int (n : Nat)) = (cs ++ [(b, n)]).map kC := by
  have hn : valD (cs.map kC) (ks b) = none := by
    have := kys_val (kC_keys cs) b
    rw [decide_eq_false h] at this
    simpa using this
  rw [keys_put_new hn, List.map_append]
  rfl
theorem adjD_val {ys : List Str} {zs : List Ln} {h : Str} (hn : ys.Nodup) (hh : h ∈ ys) : valD (adjD ys zs) (ks h) = some (.lst (adjL zs h)) := by
  unfold adjD
  induction ys with
  | nil => simp at hh
  | cons y r ih =>
    rw [List.nodup_cons] at hn
    rw [List.map_cons]
    rcases List.mem_cons.mp hh with rfl | hh
    · exact valD_pos rfl
    · have hne : ¬ ((ks y, D.lst (adjL zs y)) : Key × D).1 = ks h := fun e => hn.1 (by
        have e : y = h := Sum.inr.inj e
        rw [e]
        exact hh)
      rw [valD_neg hne]
      exact ih hn.2 hh
def sp_step_counts : Sp2 := fun ds μ Q _ => ∃ (ys : List Str) (zs : List Ln) (h : Str), ds = [.dct (adjD ys zs), .str h] ∧ ys.Nodup ∧ ys.length ≤ 1000 ∧ zs.length ≤ 1000 ∧ h ∈ ys ∧ (∀ a b, Adj zs a b → b ∈ ys) ∧ ∀ cs, Bf ys zs h cs cs.length → Q (.dct (cs.map kC)) μ
theorem len_step_counts (ds : List D) (μ : Mu) (Q : QE) (ex : Ex2) (h : sp_step_counts ds μ Q ex) : ds.length = 2 := by
  obtain ⟨ys, zs, h, rfl, _⟩ := h
  rfl
theorem pure_step_counts (ds : List D) (μ : Mu) (Q : QE) (ex : Ex2) (h : sp_step_counts ds μ Q ex) : t_step_counts (ends Q) (startD ["a", "b", "c", "d", "e", "f", "g", "h"] ds) μ := by
  obtain ⟨ys, zs, h, rfl, hn, hyl, hzl, hh, hin, q⟩ := h
  have hsz := sizeLine_eq
  unfold t_step_counts
  show jSeq _ _ (ends Q) [some _, some _, none, none, none, none, none, none] μ
  walk_at "js"
  refine ⟨[(ks h, .int 0)], rfl, by simp, .m fun p1 hp1 => ?_⟩
  walk_at "js"
  refine .m fun p2 hp2 => ?_
  have h12 : p1 ≠ p2 := fun e => by rw [← e, mup_same] at hp2; cases hp2
  have hp20 : μ p2 = none := by rw [mup_ne h12.symm] at hp2; exact hp2
  have s1 : ∀ (k : List (Key × D)) (xs : List D), (mup (mup μ p1 (.dct k)) p2 (.lst xs)) p1 = some (.dct k) := fun k xs => (mup_ne h12).trans mup_same
  have s2 : ∀ (k : List (Key × D)) (xs : List D), (mup (mup μ p1 (.dct k)) p2 (.lst xs)) p2 = some (.lst xs) := fun k xs => mup_same
  have e1 : ∀ (k k' : List (Key × D)) (xs : List D), mup (mup (mup μ p1 (.dct k)) p2 (.lst xs)) p1 (.dct k') = mup (mup μ p1 (.dct k')) p2 (.lst xs) := fun k k' xs => by rw [mup_comm h12.symm, mup_mup]
  walk_at "js"
  refine ⟨fun m δ μ' => ∃ (cs : List Ct) (i : Nat) (o5 o6 o7 : Option D), Bf ys zs h cs i ∧ i ≤ cs.length ∧ m = ys.length - i ∧ μ' = mup (mup μ p1 (.dct (cs.map kC))) p2 (.lst (cs.map fun c => D.str c.1)) ∧ δ = [some (.dct (adjD ys zs)), some (.str h), some (.ref p1), some (.ref p2), some (.int (i : Nat)), o5, o6, o7],
    ⟨_, [(h, 0)], 0, none, none, none, .start hh, by simp, rfl, rfl, rfl⟩, ?_⟩
  rintro m δ μ' ⟨cs, i, o5, o6, o7, B, hi, rfl, rfl, rfl⟩
  have hcl := B.len
  walk_at "js"
  rw [List.length_map]
  refine w_ifd (fun hlt => ?_) (fun hge => ?_)
  · have hlt : i < cs.length := by omega
    have hci : cs[i]? = some (cs[i].1, cs[i].2) := List.getElem?_eq_getElem hlt
    have hcm : cs[i] ∈ cs := List.getElem_mem hlt
    generalize cs[i].1 = a at hci
    generalize cs[i].2 = n at hci
    have ham : (a, n) ∈ cs := List.mem_of_getElem? hci
    have hay : a ∈ ys := B.sub _ ham
    have eq1 : (cs.map fun c => D.str c.1)[i]? = some (.str a) := by rw [List.getElem?_map, hci]; rfl
    walk_at "js"
    refine x_ixM (s2 _ _) (atI_some eq1) ?_
    walk_at "js"
    refine x_ixDA .f (kk := ks a) rfl (adjD_val hn hay) ?_
    walk_at "js"
    refine loop_inv (fun r δ μ' => ∃ (cs : List Ct) (dn rs : List (Str × Str)) (o6 o7 : Option D), nbs zs a = dn ++ rs ∧ r = rs.map nbD ∧ Bf ys zs h cs i ∧ cs[i]? = some (a, n) ∧ (∀ p ∈ dn, ∃ d ∈ cs, d.1 = p.2 ∧ d.2 ≤ n + 1) ∧ μ' = mup (mup μ p1 (.dct (cs.map kC))) p2 (.lst (cs.map fun c => D.str c.1)) ∧ δ = [some (.dct (adjD ys zs)), some (.str h), some (.ref p1), some (.ref p2), some (.int (i : Nat)), some (.str a), o6, o7]) (fun _ _ _ _ => trivial) ?_ ?_ _ _ _ ⟨cs, [], nbs zs a, _, _, rfl, rfl, B, hci, by simp, rfl, rfl⟩
    · rintro x r δ μ' ⟨cs, dn, rs, o6, o7, h1, h2, B, hci, hd, rfl, rfl⟩ QN hN
      have hcl := B.len
      have ham : (a, n) ∈ cs := List.mem_of_getElem? hci
      cases rs with
      | nil => cases h2
      | cons z rs =>
        rw [List.map_cons] at h2
        injection h2 with e3 e4
        subst e3 e4
        obtain ⟨w, b⟩ := z
        have hab : Adj zs a b := ⟨w, by rw [h1]; simp⟩
        show kTup 2 _ (.tup [.str w, .str b]) _ _ _
        walk_at "js"
        refine x_ninK (.m (s1 _ _)) (k := ks b) rfl ?_
        rw [kys_val (kC_keys cs)]
        refine ⟨_, rfl, w_ifn (fun hnb => ?_) (fun hb => ?_)⟩
        · walk_at "js"
          refine x_ixDA (.m (s1 _ _)) (kk := ks a) rfl (kC_val (c := (a, n)) B.nd ham) ?_
          walk_at "js"
          refine x_setD (s1 _ _) (kk := ks b) rfl (by rw [List.length_map]; omega) ?_
          rw [e1, show ((n : Nat) : Int) + 1 = ((n + 1 : Nat) : Int) from rfl, kC_put hnb]
          walk_at "js"
          refine x_append (s2 _ _) (by rw [List.length_map]; omega) ?_
          rw [mup_mup]
          refine hN _ _ ⟨cs ++ [(b, n + 1)], dn ++ [(w, b)], rs, _, _, by rw [h1]; simp, rfl, B.app hci (hin a b hab) hnb hab, ?_, fun p hp => ?_, by rw [show (cs ++ [(b, n + 1)]).map (fun c => D.str c.1) = cs.map (fun c => D.str c.1) ++ [.str b] by simp], rfl⟩
          · rw [List.getElem?_append_left (List.getElem?_eq_some_iff.mp hci).1]
            exact hci
          · rcases List.mem_append.mp hp with hp | hp
            · obtain ⟨d, k1, k2, k3⟩ := hd p hp
              exact ⟨d, List.mem_append.mpr (.inl k1), k2, k3⟩
            · have e : p = (w, b) := by simpa using hp
              subst e
              exact ⟨(b, n + 1), by simp, rfl, Nat.le_refl _⟩
        · walk_at "js"
          refine hN _ _ ⟨cs, dn ++ [(w, b)], rs, _, _, by rw [h1]; simp, rfl, B, hci, fun p hp => ?_, rfl, rfl⟩
          rcases List.mem_append.mp hp with hp | hp
          · exact hd p hp
          · have e : p = (w, b) := by simpa using hp
            subst e
            obtain ⟨d, hd1, hd2⟩ := List.mem_map.mp hb
            exact ⟨d, hd1, hd2, B.top d hd1 _ hci⟩
    · rintro δ μ' ⟨cs, dn, rs, o6, o7, h1, h2, B, hci, hd, rfl, rfl⟩
      cases rs with
      | cons z rs => cases h2
      | nil =>
      rw [List.append_nil] at h1
      have hil := (List.getElem?_eq_some_iff.mp hci).1
      have hcl := B.len
      walk_at "js"
      refine ⟨ys.length - (i + 1), by omega, cs, i + 1, _, _, _, B.next hci (fun b ⟨w, hb⟩ => hd (w, b) (by rw [← h1]; exact hb)), by omega, rfl, rfl, rfl⟩
  · have e : i = cs.length := by omega
    subst e
    walk_at "js"
    refine .join (.dct (s1 _ _) (.drop (μ' := μ) (fun b o hb => ?_) (q cs B)))
    have hb1 : b ≠ p1 := fun z => by rw [z, hp1] at hb; cases hb
    have hb2 : b ≠ p2 := fun z => by rw [z, hp20] at hb; cases hb
    unfold mdel
    rw [if_neg hb1, mup_ne hb2, mup_ne hb1]
    exact hb

/-! ### distances -/
def cT (c : Ct) : D := .tup [.str c.1, .int c.2]
def Dist (ys : List Str) (zs : List Ln) (h : Str) (cs : List Ct) : Prop := ∃ bs, Bf ys zs h bs bs.length ∧ cs.Perm bs ∧ cs.Pairwise fun a b => leS a.1 b.1
theorem adj_in {ys : List Str} {zs : List Ln} (hz : ∀ z ∈ zs, z.2.1 ∈ ys ∧ z.2.2 ∈ ys ∧ z.2.1 ≠ z.2.2) : ∀ a b, Adj zs a b → b ∈ ys := fun a b h => by
  obtain ⟨z, hz1, h⟩ := (adj_iff fun z h => (hz z h).2.2).mp h
  rcases h with ⟨_, rfl⟩ | ⟨_, rfl⟩
  · exact (hz z hz1).2.1
  · exact (hz z hz1).1
theorem vl_noS {wo : D} {ns : List Str} (h : nonB wo = true ∨ (nmD wo = true ∧ strOf wo ∈ ns)) : NoS wo := by
  rcases h with h | ⟨h, _⟩
  · cases wo <;> first | exact .inl rfl | cases h
  · obtain ⟨w, rfl, _⟩ := nmD_str h
    exact .inr ⟨_, rfl⟩

/-! ### what the law says is due of a search -/
def forms (ws : List D) (wo : D) : List D := if nonB wo = true then ws else ws ++ [wo]
theorem firstBad_app {wo : D} : ∀ {ws : List D}, firstBad (ws ++ [wo]) = match firstBad ws with
    | some x => some x
    | none => if nmD wo = true then none else some wo
  | [] => rfl
  | x :: r => by
    rw [List.cons_append]
    cases h : nmD x with
    | true => rw [firstBad_ok h, firstBad_ok h]; exact firstBad_app
    | false => rw [firstBad_no h, firstBad_no h]
theorem forms_bad {ys ns : List Str} {ws : List D} {wo x : D} (h : firstBad (forms ws wo) = some x) : dueS ys ns ws wo = badE x := by
  unfold forms at h
  cases h0 : nonB wo with
  | true =>
    rw [h0, if_pos rfl] at h
    exact dueS_bad h
  | false =>
    rw [h0, if_neg Bool.false_ne_true, firstBad_app] at h
    cases h1 : firstBad ws with
    | some y =>
      rw [h1] at h
      cases h
      exact dueS_bad h1
    | none =>
      rw [h1] at h
      have h : (if nmD wo = true then none else some wo) = some x := h
      cases h2 : nmD wo with
      | true =>
        rw [h2, if_pos rfl] at h
        cases h
      | false =>
        rw [h2, if_neg Bool.false_ne_true] at h
        cases h
        exact dueS_badL h1 h0 h2
theorem forms_ok {ws : List D} {wo : D} (h : firstBad (forms ws wo) = none) : firstBad ws = none ∧ (nonB wo = true ∨ nmD wo = true) := by
  unfold forms at h
  cases h0 : nonB wo with
  | true =>
    rw [h0, if_pos rfl] at h
    exact ⟨h, .inl rfl⟩
  | false =>
    rw [h0, if_neg Bool.false_ne_true, firstBad_app] at h
    cases h1 : firstBad ws with
    | some y =>
      rw [h1] at h
      cases h
    | none =>
      rw [h1] at h
      have h : (if nmD wo = true then none else some wo) = none := h
      cases h2 : nmD wo with
      | true => exact ⟨rfl, .inr rfl⟩
      | false =>
        rw [h2, if_neg Bool.false_ne_true] at h
        cases h
/-! ### an argument -/
def odds2 (z : Str) : List D := [.non, .bl true, .bl false, .int 0, .str "", .str "A", .str "0a", .str "a b", .lst [], .lst [.str "a"], .tup [], .dct [], .str z, .str "a\n", .str "a-"]
theorem odds2_vl {z : Str} (hz : z.length ≤ 13) : ∀ x ∈ odds2 z, Vl x := by
  intro x hx
  have h : x = .bl false ∨ x ∈ odds z := by
    simp only [odds2, odds, List.mem_cons, List.not_mem_nil, or_false] at hx ⊢
    rcases hx with h | h | h | h | h | h | h | h | h | h | h | h | h | h | h <;> simp [h]
  rcases h with rfl | h
  · exact ⟨.atm (.inr (.inl ⟨_, rfl⟩)), sh_no fun s e => by cases e⟩
  · exact odds_vl hz x h

/-! ### asked -/
def ErS (e : Str × Str × D) : Prop := Pl 1 e.2.2 ∧ ((e.1 = "BadName" ∧ e.2.1 = "word") ∨ (e.1 = "NoHouse" ∧ e.2.1 = "word") ∨ (e.1 = "NoLine" ∧ e.2.1 = "word"))
theorem firstBad_mem : ∀ {ws : List D} {x : D}, firstBad ws = some x → x ∈ ws
  | y :: r, x, h => by
    cases e : nmD y with
    | true =>
      rw [firstBad_ok e] at h
      exact List.mem_cons_of_mem _ (firstBad_mem h)
    | false =>
      rw [firstBad_no e] at h
      cases h
      exact List.mem_cons_self ..
theorem firstOut_mem {ys : List Str} : ∀ {ws : List D} {x : D}, firstOut ys ws = some x → x ∈ ws
  | y :: r, x, h => by
    by_cases e : strOf y ∈ ys
    · rw [firstOut, if_pos e] at h
      exact List.mem_cons_of_mem _ (firstOut_mem h)
    · rw [firstOut, if_neg e] at h
      cases h
      exact List.mem_cons_self ..
theorem dueS_er {ys ns : List Str} {ws : List D} {wo : D} {e : Str × Str × D} (hv : ∀ w ∈ ws, Vl w) (hw : Vl wo) (h : dueS ys ns ws wo = some e) : ErS e := by
  unfold dueS at h
  split at h
  · rename_i x hx
    cases h
    exact ⟨(hv x (firstBad_mem hx)).1, .inl ⟨rfl, rfl⟩⟩
  · split at h
    · split at h
      · rename_i x hx
        cases h
        exact ⟨(hv x (firstOut_mem hx)).1, .inr (.inl ⟨rfl, rfl⟩)⟩
      · split at h
        · cases h
        · cases h
          exact ⟨hw.1, .inr (.inr ⟨rfl, rfl⟩)⟩
    · cases h
      exact ⟨hw.1, .inl ⟨rfl, rfl⟩⟩

/-! ### counts read -/
theorem seq_fresh {μ : Mu} {v : D} {xs : List D} {p : Addr} {o : MO} (h : SeqAt μ v xs) (hp : μ p = none) : SeqAt (mup μ p o) v xs := by
  rcases h with (rfl | ⟨a, rfl, ha⟩) | rfl
  · exact .f
  · exact .inl (.m ((mup_ne fun e => by rw [e, hp] at ha; cases ha).trans ha))
  · exact .r

/-! ### what is told, judged -/
structure Told (ys : List Str) (zs : List Ln) (h : Str) (cs : List Ct) : Prop where
  nd : (cs.map (·.1)).Nodup
  sub : ∀ c ∈ cs, c.1 ∈ ys
  srt : cs.Pairwise fun a b => leS a.1 b.1
  head : (h, 0) ∈ cs
  par : ∀ c ∈ cs, c = (h, 0) ∨ ∃ d ∈ cs, Adj zs d.1 c.1 ∧ c.2 = d.2 + 1
  done : ∀ c ∈ cs, ∀ b, Adj zs c.1 b → ∃ d ∈ cs, d.1 = b ∧ d.2 ≤ c.2 + 1
theorem Dist.told {ys : List Str} {zs : List Ln} {h : Str} {cs : List Ct} (D : Dist ys zs h cs) : Told ys zs h cs := by
  obtain ⟨bs, B, hp, hs⟩ := D
  refine ⟨(hp.map _).nodup_iff.mpr B.nd, fun c hc => B.sub c (hp.subset hc), hs, hp.symm.subset (List.mem_of_getElem? B.head), fun c hc => ?_, fun c hc b hb => ?_⟩
  · obtain ⟨j, hj, rfl⟩ := List.getElem_of_mem (hp.subset hc)
    by_cases h0 : 0 < j
    · obtain ⟨d, h1, h2, h3⟩ := B.par j h0 _ (List.getElem?_eq_getElem hj)
      exact .inr ⟨d, hp.symm.subset h1, h2, h3⟩
    · have e : j = 0 := by omega
      subst e
      have := B.head
      rw [List.getElem?_eq_getElem hj] at this
      exact .inl (Option.some.inj this)
  · obtain ⟨j, hj, rfl⟩ := List.getElem_of_mem (hp.subset hc)
    obtain ⟨d, h1, h2, h3⟩ := B.done j hj _ (List.getElem?_eq_getElem hj) b hb
    exact ⟨d, hp.symm.subset h1, h2, h3⟩
theorem Told.congr {ys ys' : List Str} {zs zs' : List Ln} {h : Str} {cs : List Ct} (T : Told ys zs h cs) (h1 : ∀ t, t ∈ ys → t ∈ ys') (h2 : ∀ a b, Adj zs a b ↔ Adj zs' a b) : Told ys' zs' h cs := ⟨T.nd, fun c hc => h1 _ (T.sub c hc), T.srt, T.head, fun c hc => (T.par c hc).imp id fun ⟨d, k1, k2, k3⟩ => ⟨d, k1, (h2 _ _).mp k2, k3⟩, fun c hc b hb => T.done c hc b ((h2 _ _).mpr hb)⟩
theorem ct_inj {cs : List Ct} (hn : (cs.map (·.1)).Nodup) {a : Str} {n m : Nat} (h1 : (a, n) ∈ cs) (h2 : (a, m) ∈ cs) : n = m := by
  have e1 := kC_val (c := (a, n)) hn h1
  have e2 := kC_val (c := (a, m)) hn h2
  have e1 : valD (cs.map kC) (ks a) = some (.int (n : Nat)) := e1
  have e2 : valD (cs.map kC) (ks a) = some (.int (m : Nat)) := e2
  rw [e1] at e2
  have e3 : D.int (n : Nat) = .int (m : Nat) := Option.some.inj e2
  injection e3 with e4
  omega
theorem ct_of {cs : List Ct} {a : Str} (h : a ∈ cs.map (·.1)) : ∃ n, (a, n) ∈ cs := by
  obtain ⟨⟨b, n⟩, hc, rfl⟩ := List.mem_map.mp h
  exact ⟨n, hc⟩
theorem ct_mem {cs : List Ct} {a : Str} {n : Nat} (h : (a, n) ∈ cs) : a ∈ cs.map (·.1) := List.mem_map.mpr ⟨_, h, rfl⟩
theorem Told.edge {ys : List Str} {zs : List Ln} {h : Str} {cs : List Ct} (T : Told ys zs h cs) {a b : Str} {n : Nat} (h1 : Adj zs a b) (h2 : (a, n) ∈ cs) : ∃ m, (b, m) ∈ cs ∧ m ≤ n + 1 := by
  obtain ⟨⟨d, m⟩, k1, rfl, k3⟩ := T.done _ h2 b h1
  exact ⟨m, k1, k3⟩

/-! ### a search judged -/
theorem mem_str {w : Str} {ws : List Str} : D.str w ∈ ws.map D.str ↔ w ∈ ws := by
  constructor
  · intro h
    obtain ⟨t, ht, e⟩ := List.mem_map.mp h
    cases e
    exact ht
  · exact fun h => List.mem_map.mpr ⟨w, h, rfl⟩
theorem adj_congr {zs zs' : List Ln} (hz : ∀ z ∈ zs, z.2.1 ≠ z.2.2) (h : ∀ z, z ∈ zs ↔ z ∈ zs') (a b : Str) : Adj zs a b ↔ Adj zs' a b := by
  rw [adj_iff hz, adj_iff fun z hz' => hz z ((h z).mpr hz')]
  constructor
  · rintro ⟨z, h1, h2⟩
    exact ⟨z, (h z).mp h1, h2⟩
  · rintro ⟨z, h1, h2⟩
    exact ⟨z, (h z).mpr h1, h2⟩
theorem less_mem {zs zs' : List Ln} {wo : D} (h : zs.Perm zs') : ∀ z, z ∈ less zs wo ↔ z ∈ less zs' wo := fun z => by
  unfold less
  rw [List.mem_filter, List.mem_filter, h.mem_iff]
theorem pl_refS {x : D} (h : Pl 1 x) (C : Str) : Pl 9 (.tup [.str "refused", .str C, x]) := pl_refused h C
theorem dist_told {ys hs : List Str} {ls zs : List Ln} {wo : D} {h : Str} {cs : List Ct} (hw : WebOk ys ls zs) (hp : ys.Perm hs) (D : Dist ys (less zs wo) h cs) : Told hs (less ls wo) h cs ∧ (∀ z ∈ less ls wo, z.2.1 ≠ z.2.2) ∧ cs.length ≤ 32 := by
  have hz : ∀ z ∈ ls, z.2.1 ≠ z.2.2 := fun z hz => (lnok_near hw.ok z hz).2.2
  have hz2 : ∀ z ∈ less zs wo, z.2.1 ≠ z.2.2 := fun z h => hz z (hw.perm.subset (less_sub z h))
  refine ⟨D.told.congr (fun t ht => hp.subset ht) fun a b => adj_congr hz2 (less_mem hw.perm) a b, fun z h => hz z (less_sub z h), ?_⟩
  obtain ⟨bs, B, h1, _⟩ := D
  have := B.len
  have := hw.len
  rw [h1.length_eq]
  omega

/-! ### webs judged -/
theorem cut_drop (xs : List D) (n : Nat) : J.cutD xs (some (n : Int)) none = xs.drop n := by
  unfold J.cutD
  rw [show HT.sIx xs.length xs.length none = xs.length from rfl]
  have e : HT.sIx xs.length 0 (some (n : Int)) = min n xs.length := by
    unfold HT.sIx
    simp only
    split <;> omega
  rw [e, List.take_of_length_le (by rw [List.length_drop]; omega)]
  by_cases h : n ≤ xs.length
  · rw [Nat.min_eq_left h]
  · rw [Nat.min_eq_right (by omega), List.drop_of_length_le (Nat.le_refl _), List.drop_of_length_le (by omega)]
theorem LnOk.sublist {hs : List Str} {ls zs : List Ln} (o : LnOk hs ls) (p : zs.Sublist ls) : LnOk hs zs := ⟨(p.map _).nodup o.nd, Nat.le_trans p.length_le o.len, fun z hz => o.nm z (p.subset hz), fun z hz => o.inn z (p.subset hz), fun z hz => o.lt z (p.subset hz)⟩
/-- a web made of houses and lines as they stand -/
theorem web_made {ys : List Str} {ls : List Ln} {x : Addr} {μ : Mu} {Q : QE} (hy : Hs ys) (hyl : ys.length ≤ 32) (ho : LnOk ys ls) (hx : μ x = none) (q : ∀ ys' zs, WebOk ys' ls zs → ys'.Perm ys → Q (.ins "Web" (webF ys' ls zs)) μ) :
    sp_Web_init [.ref x, .lst (ys.map D.str), .lst (ls.map lnD)] (mup μ x (.ins "Web" [])) (fun d μ2 => d = .non ∧ Upd Q (.ref x) μ2) noEx := by
  have er := runLs_hd0 hy ho (asIs_fst ls)
  have ew : webE (ys.map D.str) (((asIs ls).map hndR).map (·.1)) = none := by rw [webE_ys hy hyl, er]
  have e2 : (runLs ((ys.map D.str).map strOf) [] (((asIs ls).map hndR).map (·.1))).2 = ls := by rw [strOf_map, er]
  have hrow := hs_row hy hyl
  refine ⟨x, _, _, ys.map D.str, ls.map lnD, ((asIs ls).map hndR).map (·.1), rfl, mup_same, .inl rfl, ⟨by rw [List.length_map]; omega, hrow.2⟩, .inl rfl, ?_, fun _ ys' zs hw hsrt => ⟨rfl, ?_⟩, fun μ' hle => ?_⟩
  · rw [← asIs_rw]
    exact rws_map (hd_vl hy ho (asIs_fst ls))
  · rw [e2] at hw ⊢
    rw [mup_mup]
    refine .ins mup_same ?_
    rw [mdel_mup hx]
    exact q _ _ hw (srt_perm hsrt)
  · rw [ew]
    trivial

/-! ### counts that are distances -/
structure Tl (ys : List Str) (zs : List Ln) (h : Str) (cs : List Ct) : Prop where
  nd : (cs.map (·.1)).Nodup
  sub : ∀ c ∈ cs, c.1 ∈ ys
  head : (h, 0) ∈ cs
  par : ∀ c ∈ cs, c = (h, 0) ∨ ∃ d ∈ cs, Adj zs d.1 c.1 ∧ c.2 = d.2 + 1
  done : ∀ c ∈ cs, ∀ b, Adj zs c.1 b → ∃ d ∈ cs, d.1 = b ∧ d.2 ≤ c.2 + 1
theorem Bf.tl {ys : List Str} {zs : List Ln} {h : Str} {cs : List Ct} (B : Bf ys zs h cs cs.length) : Tl ys zs h cs := by
  refine ⟨B.nd, B.sub, List.mem_of_getElem? B.head, fun c hc => ?_, fun c hc b hb => ?_⟩
  · obtain ⟨j, hj, rfl⟩ := List.getElem_of_mem hc
    by_cases h0 : 0 < j
    · exact .inr (B.par j h0 _ (List.getElem?_eq_getElem hj))
    · have e : j = 0 := by omega
      subst e
      have := B.head
      rw [List.getElem?_eq_getElem hj] at this
      exact .inl (Option.some.inj this)
  · obtain ⟨j, hj, rfl⟩ := List.getElem_of_mem hc
    exact B.done j hj _ (List.getElem?_eq_getElem hj) b hb
theorem Tl.edge {ys : List Str} {zs : List Ln} {h : Str} {cs : List Ct} (T : Tl ys zs h cs) {a b : Str} {n : Nat} (h1 : Adj zs a b) (h2 : (a, n) ∈ cs) : ∃ m, (b, m) ∈ cs ∧ m ≤ n + 1 := by
  obtain ⟨⟨d, m⟩, k1, rfl, k3⟩ := T.done _ h2 b h1
  exact ⟨m, k1, k3⟩
theorem Tl.congr {ys ys' : List Str} {zs zs' : List Ln} {h : Str} {cs : List Ct} (T : Tl ys zs h cs) (h1 : ∀ t, t ∈ ys → t ∈ ys') (h2 : ∀ a b, Adj zs a b ↔ Adj zs' a b) : Tl ys' zs' h cs := ⟨T.nd, fun c hc => h1 _ (T.sub c hc), T.head, fun c hc => (T.par c hc).imp id fun ⟨d, k1, k2, k3⟩ => ⟨d, k1, (h2 _ _).mp k2, k3⟩, fun c hc b hb => T.done c hc b ((h2 _ _).mpr hb)⟩
/-! ### distances are one thing -/
theorem Tl.le {ys ys' : List Str} {zs : List Ln} {h : Str} {cs bs : List Ct} (T : Tl ys zs h cs) (S : Tl ys' zs h bs) : ∀ n a, (a, n) ∈ cs → ∃ m, (a, m) ∈ bs ∧ m ≤ n := by
  intro n
  induction n using Nat.strongRecOn with
  | ind n ih =>
    intro a ha
    rcases T.par _ ha with e | ⟨⟨d, k⟩, h1, h2, h3⟩
    · cases e
      exact ⟨0, S.head, Nat.le_refl _⟩
    · have h3 : n = k + 1 := h3
      obtain ⟨m, h4, h5⟩ := ih k (by omega) d h1
      obtain ⟨m2, h6, h7⟩ := S.edge h2 h4
      exact ⟨m2, h6, by omega⟩
theorem Tl.same {ys ys' : List Str} {zs : List Ln} {h : Str} {cs bs : List Ct} (T : Tl ys zs h cs) (S : Tl ys' zs h bs) (c : Ct) : c ∈ cs ↔ c ∈ bs := by
  have half : ∀ {ys ys' : List Str} {cs bs : List Ct}, Tl ys zs h cs → Tl ys' zs h bs → ∀ c, c ∈ cs → c ∈ bs := by
    intro ys ys' cs bs T S c hc
    obtain ⟨a, n⟩ := c
    obtain ⟨m, h1, h2⟩ := T.le S n a hc
    obtain ⟨k, h3, h4⟩ := S.le T m a h1
    have := ct_inj T.nd hc h3
    have e : m = n := by omega
    subst e
    exact h1
  exact ⟨half T S c, half S T c⟩
/-- walks of so many steps -/
inductive Wk (zs : List Ln) : Nat → Str → Str → Prop
  | nil {a : Str} : Wk zs 0 a a
  | cons {n : Nat} {a b c : Str} : Adj zs a b → Wk zs n b c → Wk zs (n + 1) a c
theorem Wk.snoc {zs : List Ln} {n : Nat} {a b c : Str} (h : Wk zs n a b) (h2 : Adj zs b c) : Wk zs (n + 1) a c := by
  induction h with
  | nil => exact .cons h2 .nil
  | cons h1 _ ih => exact .cons h1 (ih h2)
theorem adj_symm {zs : List Ln} (hz : ∀ z ∈ zs, z.2.1 ≠ z.2.2) {a b : Str} (h : Adj zs a b) : Adj zs b a := by
  obtain ⟨z, h1, h2⟩ := (adj_iff hz).mp h
  exact (adj_iff hz).mpr ⟨z, h1, h2.elim (fun ⟨e1, e2⟩ => .inr ⟨e2, e1⟩) fun ⟨e1, e2⟩ => .inl ⟨e2, e1⟩⟩
theorem Wk.symm {zs : List Ln} (hz : ∀ z ∈ zs, z.2.1 ≠ z.2.2) {n : Nat} {a b : Str} (h : Wk zs n a b) : Wk zs n b a := by
  induction h with
  | nil => exact .nil
  | cons h1 _ ih => exact ih.snoc (adj_symm hz h1)
theorem Tl.walk {ys : List Str} {zs : List Ln} {h : Str} {cs : List Ct} (T : Tl ys zs h cs) : ∀ n a, (a, n) ∈ cs → Wk zs n h a := by
  intro n
  induction n using Nat.strongRecOn with
  | ind n ih =>
    intro a ha
    rcases T.par _ ha with e | ⟨⟨d, k⟩, h1, h2, h3⟩
    · cases e
      exact .nil
    · have h3 : n = k + 1 := h3
      subst h3
      exact (ih k (by omega) d h1).snoc h2
theorem Tl.reach {ys : List Str} {zs : List Ln} {h : Str} {cs : List Ct} (T : Tl ys zs h cs) {n : Nat} {a b : Str} (w : Wk zs n a b) : ∀ k, (a, k) ∈ cs → ∃ m, (b, m) ∈ cs ∧ m ≤ k + n := by
  induction w with
  | nil => exact fun k hk => ⟨k, hk, Nat.le_refl _⟩
  | cons h1 _ ih =>
    intro k hk
    obtain ⟨m, h2, h3⟩ := T.edge h1 hk
    obtain ⟨m2, h4, h5⟩ := ih m h2
    exact ⟨m2, h4, by omega⟩
theorem told_sym {ys ys' : List Str} {zs : List Ln} {a b : Str} {cs bs : List Ct} (hz : ∀ z ∈ zs, z.2.1 ≠ z.2.2) (T : Tl ys zs b cs) (S : Tl ys' zs a bs) (n : Nat) : (a, n) ∈ cs ↔ (b, n) ∈ bs := by
  have half : ∀ {ys ys' : List Str} {a b : Str} {cs bs : List Ct}, Tl ys zs b cs → Tl ys' zs a bs → ∀ n, (a, n) ∈ cs → ∃ m, (b, m) ∈ bs ∧ m ≤ n := by
    intro ys ys' a b cs bs T S n hn
    obtain ⟨m, h1, h2⟩ := S.reach ((T.walk n a hn).symm hz) 0 S.head
    exact ⟨m, h1, by omega⟩
  constructor
  · intro hn
    obtain ⟨m, h1, h2⟩ := half T S n hn
    obtain ⟨k, h3, h4⟩ := half S T m h1
    have := ct_inj T.nd hn h3
    have e : m = n := by omega
    subst e
    exact h1
  · intro hn
    obtain ⟨m, h1, h2⟩ := half S T n hn
    obtain ⟨k, h3, h4⟩ := half T S m h1
    have := ct_inj S.nd hn h3
    have e : m = n := by omega
    subst e
    exact h1
/-! ### the way -/
def cnt (cs : List Ct) (a : Str) : Nat := ((cs.find? fun c => decide (c.1 = a)).map (·.2)).getD 0
theorem cnt_of {cs : List Ct} (hn : (cs.map (·.1)).Nodup) {a : Str} {n : Nat} (h : (a, n) ∈ cs) : cnt cs a = n := by
  unfold cnt
  induction cs with
  | nil => simp at h
  | cons c r ih =>
    rw [List.map_cons, List.nodup_cons] at hn
    rw [List.find?_cons]
    rcases List.mem_cons.mp h with rfl | h
    · simp
    · have hne : ¬ c.1 = a := fun e => hn.1 (e ▸ List.mem_map.mpr ⟨_, h, rfl⟩)
      rw [decide_eq_false hne]
      exact ih hn.2 h
abbrev St3 := Str × Str × Str
def stD (t : St3) : D := .tup [.str t.1, .str t.2.1, .str t.2.2]
def nx1 (zs : List Ln) (cs : List Ct) (a : Str) : Option (Str × Str) := (nbs zs a).find? fun p => decide (cnt cs p.2 < cnt cs a)
inductive Way (zs : List Ln) (cs : List Ct) (b : Str) : Str → List St3 → Prop
  | nil : Way zs cs b b []
  | cons {a s w : Str} {r : List St3} : a ≠ b → nx1 zs cs a = some (w, s) → Way zs cs b s r → Way zs cs b a ((w, a, s) :: r)
theorem Way.det {zs : List Ln} {cs : List Ct} {b a : Str} {r : List St3} (h : Way zs cs b a r) : ∀ {r'}, Way zs cs b a r' → r = r' := by
  induction h with
  | nil =>
    intro r' h'
    cases h' with
    | nil => rfl
    | cons h1 => exact absurd rfl h1
  | cons h1 h2 _ ih =>
    intro r' h'
    cases h' with
    | nil => exact absurd rfl h1
    | cons k1 k2 k3 =>
      rw [h2] at k2
      cases k2
      rw [ih k3]
theorem Way.congr {zs : List Ln} {cs bs : List Ct} (hc : ∀ a, cnt cs a = cnt bs a) {b a : Str} {r : List St3} (h : Way zs cs b a r) : Way zs bs b a r := by
  induction h with
  | nil => exact .nil
  | cons h1 h2 _ ih => exact .cons h1 (by unfold nx1 at h2 ⊢; simpa only [hc] using h2) ih
theorem cnt_none {cs : List Ct} {a : Str} (h : a ∉ cs.map (·.1)) : cnt cs a = 0 := by
  unfold cnt
  have e : cs.find? (fun c => decide (c.1 = a)) = none := List.find?_eq_none.mpr fun c hc e => h (List.mem_map.mpr ⟨c, hc, by simpa using e⟩)
  rw [e]
  rfl
theorem Tl.cnt_eq {ys ys' : List Str} {zs : List Ln} {h : Str} {cs bs : List Ct} (T : Tl ys zs h cs) (S : Tl ys' zs h bs) (a : Str) : cnt cs a = cnt bs a := by
  by_cases ha : a ∈ cs.map (·.1)
  · obtain ⟨n, hn⟩ := ct_of ha
    rw [cnt_of T.nd hn, cnt_of S.nd ((T.same S _).mp hn)]
  · have hb : a ∉ bs.map (·.1) := fun hb => by
      obtain ⟨n, hn⟩ := ct_of hb
      exact ha (ct_mem ((T.same S _).mpr hn))
    rw [cnt_none ha, cnt_none hb]
/-- away from the end there is a step, to one nearer by one -/
theorem Tl.step {ys : List Str} {zs : List Ln} {b : Str} {cs : List Ct} (T : Tl ys zs b cs) (hz : ∀ z ∈ zs, z.2.1 ≠ z.2.2) {a : Str} {n : Nat} (ha : (a, n) ∈ cs) (hab : a ≠ b) : ∃ w s k, nx1 zs cs a = some (w, s) ∧ n = k + 1 ∧ (s, k) ∈ cs ∧ (w, s) ∈ nbs zs a := by
  rcases T.par _ ha with e | ⟨⟨d, k⟩, h1, h2, h3⟩
  · cases e
    exact absurd rfl hab
  · have h3 : n = k + 1 := h3
    obtain ⟨w0, hw0⟩ := adj_symm hz h2
    cases e : nx1 zs cs a with
    | none =>
      have := List.find?_eq_none.mp e (w0, d) hw0
      rw [cnt_of T.nd h1, cnt_of T.nd ha] at this
      simp at this
      omega
    | some p =>
      obtain ⟨w, s⟩ := p
      have hm := List.mem_of_find?_eq_some e
      have hp := List.find?_some e
      rw [cnt_of T.nd ha] at hp
      obtain ⟨m, h4, h5⟩ := T.edge ⟨w, hm⟩ ha
      obtain ⟨m2, h6, h7⟩ := T.edge (adj_symm hz ⟨w, hm⟩) h4
      have := ct_inj T.nd h6 ha
      rw [cnt_of T.nd h4] at hp
      have hp : m < n := by simpa using hp
      have e2 : m = k := by omega
      subst e2
      exact ⟨w, s, m, rfl, h3, h4, hm⟩
theorem Tl.zero {ys : List Str} {zs : List Ln} {b : Str} {cs : List Ct} (T : Tl ys zs b cs) {a : Str} (h : (a, 0) ∈ cs) : a = b := by
  rcases T.par _ h with e | ⟨⟨d, k⟩, h1, h2, h3⟩
  · cases e
    rfl
  · have h3 : 0 = k + 1 := h3
    omega
theorem Way.len {ys : List Str} {zs : List Ln} {b : Str} {cs : List Ct} (T : Tl ys zs b cs) (hz : ∀ z ∈ zs, z.2.1 ≠ z.2.2) {a : Str} {r : List St3} (h : Way zs cs b a r) : ∀ n, (a, n) ∈ cs → r.length = n := by
  induction h with
  | nil =>
    intro n hn
    have := ct_inj T.nd hn T.head
    subst this
    rfl
  | cons h1 h2 _ ih =>
    intro n hn
    obtain ⟨w, s, k, h3, h4, h5, _⟩ := T.step hz hn h1
    rw [h2] at h3
    cases h3
    rw [List.length_cons, ih k h5, h4]

/-! ### filtered lists -/
theorem nmD_strT {d : D} (h : nmD d = true) : ∃ t, d = .str t := by
  obtain ⟨l, rfl, _⟩ := nmD_str h
  exact ⟨_, rfl⟩
theorem x_pop0 {a : Addr} {d : D} {xs : List D} {μ : Mu} {Q : QE} (ha : μ a = some (.lst (d :: xs))) (h : Q d (mup μ a (.lst xs))) : pop1 (.ref a) [.int 0] μ Q := ⟨d :: xs, 0, d, ha, by decide, by decide, by simp [seqIndex?], rfl, h⟩
theorem lc_fmZ {α : Type} {tg : TG2} {tt : TT2} {te : TE2} {δ0 : Sg} {k : List D → Mu → Prop} {μ : Mu} (zs : List α) (g : α → D) (f : α → Option D) (hl : zs.length < sizeLine)
    (hs : ∀ z ∈ zs, ∀ (Y : D → Mu → Prop) (Nn : Mu → Prop), (∀ y, f z = some y → Y y μ) → (f z = none → Nn μ) → tg (g z) δ0 μ fun δ1 μ1 => tt δ1 μ1 fun b μ2 => if b = true then te δ1 μ2 Y else Nn μ2) (hd : k (zs.filterMap f) μ) : jLcl tg tt te δ0 (fun _ => True) k (zs.map g) [] μ := by
  refine lc_inv (fun r acc μ' => μ' = μ ∧ ∃ us : List α, r = us.map g ∧ acc ++ us.filterMap f = zs.filterMap f ∧ acc.length + us.length ≤ zs.length ∧ ∀ u ∈ us, u ∈ zs) (fun _ _ _ _ => trivial) ?_ ?_ (zs.map g) [] μ ⟨rfl, zs, rfl, rfl, by simp, fun _ h => h⟩
  · rintro x r acc μ' ⟨rfl, us, hr, he, hz, hm⟩ N hN
    cases us with
    | nil => cases hr
    | cons u us =>
      rw [List.map_cons] at hr
      injection hr with e1 e2
      subst e1 e2
      simp only [List.length_cons] at hz
      refine hs u (hm u (List.mem_cons_self ..)) _ _ (fun y hy => ⟨by omega, hN _ _ ⟨rfl, us, rfl, ?_, ?_, fun z hz' => hm z (List.mem_cons_of_mem _ hz')⟩⟩) (fun hn => hN _ _ ⟨rfl, us, rfl, ?_, by omega, fun z hz' => hm z (List.mem_cons_of_mem _ hz')⟩)
      · rw [← he, List.filterMap_cons, hy]
        simp
      · rw [List.length_append]
        simp
        omega
      · rw [← he, List.filterMap_cons, hn]
  · rintro acc μ' ⟨rfl, us, hr, he, _, _⟩
    cases us with
    | cons u us => cases hr
    | nil =>
      have e2 : acc = zs.filterMap f := by simpa using he
      rw [e2]
      exact hd
theorem x_less {ls : List Ln} {wo : D} {δ0 : Sg} {tg : TG2} {tt : TT2} {te : TE2} {k : List D → Mu → Prop} {μ : Mu} (hl : ls.length < sizeLine)
    (hs : ∀ z ∈ ls, ∀ (Y : D → Mu → Prop) (Nn : Mu → Prop), (isW z.1 wo = false → Y (lnD z) μ) → (isW z.1 wo = true → Nn μ) → tg (lnD z) δ0 μ fun δ1 μ1 => tt δ1 μ1 fun b μ2 => if b = true then te δ1 μ2 Y else Nn μ2) (hd : k ((less ls wo).map lnD) μ) : jLcl tg tt te δ0 (fun _ => True) k (ls.map lnD) [] μ := by
  refine lc_fmZ ls lnD (fun z => if isW z.1 wo = true then none else some (lnD z)) hl (fun z hz Y Nn h1 h2 => hs z hz Y Nn (fun e => h1 _ (by rw [e]; rfl)) fun e => h2 (by rw [e]; rfl)) ?_
  have e : ls.filterMap (fun z => if isW z.1 wo = true then none else some (lnD z)) = (less ls wo).map lnD := by
    unfold less
    clear hs hd hl
    induction ls with
    | nil => rfl
    | cons z r ih =>
      rw [List.filterMap_cons, List.filter_cons]
      cases h : isW z.1 wo with
      | true => exact ih
      | false => exact congrArg _ ih
  rw [e]
  exact hd
theorem dueS_mk {ys ns : List Str} {ws : List D} {wo : D} (h1 : ∀ x ∈ ws, nmD x = true ∧ strOf x ∈ ys) (h2 : nonB wo = true ∨ (nmD wo = true ∧ strOf wo ∈ ns)) : dueS ys ns ws wo = none := by
  have e1 : firstBad ws = none := by
    clear h2
    induction ws with
    | nil => rfl
    | cons x r ih =>
      rw [firstBad_ok (h1 x (List.mem_cons_self ..)).1]
      exact ih fun y hy => h1 y (List.mem_cons_of_mem _ hy)
  have e2 : firstOut ys ws = none := by
    clear h2 e1
    induction ws with
    | nil => rfl
    | cons x r ih =>
      rw [firstOut, if_pos (h1 x (List.mem_cons_self ..)).2]
      exact ih fun y hy => h1 y (List.mem_cons_of_mem _ hy)
  rw [dueS_line e1 (h2.imp id (·.1)) e2, if_pos (h2.imp id (·.2))]
theorem sm_told {μ : Mu} {v : D} {xs : List D} (h : SeqAt μ v xs) (hp : ∀ x ∈ xs, Pl 7 x) (hl : xs.length < 1000) : Sm μ 9 (.tup [.str "told", v]) (.tup [.str "told", .lst xs]) := by
  refine .inr (.inl ⟨_, _, .inr ⟨rfl, rfl⟩, rfl, by simp, fun k d e hd he => ?_⟩)
  match k, hd, he with
  | 0, hd, he =>
    cases hd
    cases he
    exact Sm.refl 8 _ pl_str
  | 1, hd, he =>
    cases hd
    cases he
    refine .inr (.inl ⟨xs, xs, .inl ⟨h, .f⟩, rfl, by omega, fun j d e hd he => ?_⟩)
    rw [hd] at he
    cases he
    exact Sm.refl 7 _ (hp _ (List.mem_of_getElem? hd))
  | k + 2, hd, he => simp at hd
theorem pl_toldN : Pl 9 (.tup [.str "told", .non]) := .inr (.inl ⟨_, .inr rfl, by simp, fun x hx => by
  simp only [List.mem_cons, List.not_mem_nil, or_false] at hx
  rcases hx with rfl | rfl
  · exact pl_str
  · exact .atm (.inr (.inr (.inr rfl)))⟩)

/-! ### houses that are joined; the parts -/
def Jn (zs : List Ln) (a b : Str) : Prop := ∃ n, Wk zs n a b
theorem Wk.trans {zs : List Ln} {n m : Nat} {a b c : Str} (h : Wk zs n a b) (h2 : Wk zs m b c) : Wk zs (n + m) a c := by
  induction h with
  | nil => rw [Nat.zero_add]; exact h2
  | cons h1 _ ih => rw [Nat.add_right_comm]; exact .cons h1 (ih h2)
theorem Jn.refl {zs : List Ln} {a : Str} : Jn zs a a := ⟨0, .nil⟩
theorem Jn.trans {zs : List Ln} {a b c : Str} : Jn zs a b → Jn zs b c → Jn zs a c := fun ⟨_, h⟩ ⟨_, h2⟩ => ⟨_, h.trans h2⟩
theorem Jn.symm {zs : List Ln} (hz : ∀ z ∈ zs, z.2.1 ≠ z.2.2) {a b : Str} : Jn zs a b → Jn zs b a := fun ⟨n, h⟩ => ⟨n, h.symm hz⟩
theorem Jn.adj {zs : List Ln} {a b : Str} (h : Adj zs a b) : Jn zs a b := ⟨1, .cons h .nil⟩
theorem Wk.map {zs zs' : List Ln} (hc : ∀ a b, Adj zs a b → Jn zs' a b) {n : Nat} {a b : Str} (h : Wk zs n a b) : Jn zs' a b := by
  induction h with
  | nil => exact .refl
  | cons h1 _ ih => exact (hc _ _ h1).trans ih
theorem Jn.map {zs zs' : List Ln} (hc : ∀ a b, Adj zs a b → Jn zs' a b) {a b : Str} : Jn zs a b → Jn zs' a b := fun ⟨_, h⟩ => h.map hc
theorem Jn.congr {zs zs' : List Ln} (hc : ∀ a b, Adj zs a b ↔ Adj zs' a b) {a b : Str} : Jn zs a b ↔ Jn zs' a b := ⟨.map fun _ _ h => .adj ((hc _ _).mp h), .map fun _ _ h => .adj ((hc _ _).mpr h)⟩
theorem Jn.nil {a b : Str} : Jn [] a b ↔ a = b := by
  constructor
  · rintro ⟨n, h⟩
    cases h with
    | nil => rfl
    | cons h1 _ =>
      obtain ⟨_, h1⟩ := h1
      simp [nbs] at h1
  · rintro rfl
    exact .refl
theorem adj_snoc {zs : List Ln} {z : Ln} (hz : ∀ y ∈ zs ++ [z], y.2.1 ≠ y.2.2) {a b : Str} : Adj (zs ++ [z]) a b ↔ Adj zs a b ∨ (a = z.2.1 ∧ b = z.2.2) ∨ (a = z.2.2 ∧ b = z.2.1) := by
  rw [adj_iff hz, adj_iff fun y hy => hz y (List.mem_append_left _ hy)]
  constructor
  · rintro ⟨y, h1, h2⟩
    rcases List.mem_append.mp h1 with h1 | h1
    · exact .inl ⟨y, h1, h2⟩
    · obtain rfl : y = z := by simpa using h1
      rcases h2 with ⟨rfl, rfl⟩ | ⟨rfl, rfl⟩
      · exact .inr (.inl ⟨rfl, rfl⟩)
      · exact .inr (.inr ⟨rfl, rfl⟩)
  · rintro (⟨y, h1, h2⟩ | ⟨rfl, rfl⟩ | ⟨rfl, rfl⟩)
    · exact ⟨y, List.mem_append_left _ h1, h2⟩
    · exact ⟨z, by simp, .inl ⟨rfl, rfl⟩⟩
    · exact ⟨z, by simp, .inr ⟨rfl, rfl⟩⟩
theorem Jn.mono {zs : List Ln} {z : Ln} (hz : ∀ y ∈ zs ++ [z], y.2.1 ≠ y.2.2) {a b : Str} : Jn zs a b → Jn (zs ++ [z]) a b := .map fun _ _ h => .adj ((adj_snoc hz).mpr (.inl h))
theorem Jn.snoc {zs : List Ln} {z : Ln} (hz : ∀ y ∈ zs ++ [z], y.2.1 ≠ y.2.2) {a b : Str} : Jn (zs ++ [z]) a b ↔ Jn zs a b ∨ (Jn zs a z.2.1 ∧ Jn zs z.2.2 b) ∨ (Jn zs a z.2.2 ∧ Jn zs z.2.1 b) := by
  constructor
  · rintro ⟨n, h⟩
    induction h with
    | nil => exact .inl .refl
    | cons h1 _ ih =>
      rcases (adj_snoc hz).mp h1 with h1 | ⟨rfl, rfl⟩ | ⟨rfl, rfl⟩
      · rcases ih with ih | ⟨k1, k2⟩ | ⟨k1, k2⟩
        · exact .inl ((Jn.adj h1).trans ih)
        · exact .inr (.inl ⟨(Jn.adj h1).trans k1, k2⟩)
        · exact .inr (.inr ⟨(Jn.adj h1).trans k1, k2⟩)
      · rcases ih with ih | ⟨k1, k2⟩ | ⟨k1, k2⟩
        · exact .inr (.inl ⟨.refl, ih⟩)
        · exact .inr (.inl ⟨.refl, k2⟩)
        · exact .inl k2
      · rcases ih with ih | ⟨k1, k2⟩ | ⟨k1, k2⟩
        · exact .inr (.inr ⟨.refl, ih⟩)
        · exact .inl k2
        · exact .inr (.inr ⟨.refl, k2⟩)
  · have e1 : Jn (zs ++ [z]) z.2.1 z.2.2 := .adj ((adj_snoc hz).mpr (.inr (.inl ⟨rfl, rfl⟩)))
    have e2 : Jn (zs ++ [z]) z.2.2 z.2.1 := .adj ((adj_snoc hz).mpr (.inr (.inr ⟨rfl, rfl⟩)))
    rintro (h | ⟨k1, k2⟩ | ⟨k1, k2⟩)
    · exact h.mono hz
    · exact ((k1.mono hz).trans e1).trans (k2.mono hz)
    · exact ((k1.mono hz).trans e2).trans (k2.mono hz)
theorem Tl.jn {ys : List Str} {zs : List Ln} {h b : Str} {cs : List Ct} (T : Tl ys zs h cs) : b ∈ cs.map (·.1) ↔ Jn zs h b := by
  constructor
  · intro hb
    obtain ⟨⟨_, n⟩, k1, rfl⟩ := List.mem_map.mp hb
    exact ⟨n, T.walk n _ k1⟩
  · rintro ⟨n, w⟩
    obtain ⟨m, k1, _⟩ := T.reach w 0 T.head
    exact List.mem_map.mpr ⟨_, k1, rfl⟩
theorem Jn.inn {ys : List Str} {zs : List Ln} (hz : ∀ a b, Adj zs a b → b ∈ ys) {a b : Str} (ha : a ∈ ys) : Jn zs a b → b ∈ ys := by
  rintro ⟨n, w⟩
  induction w with
  | nil => exact ha
  | cons h1 _ ih => exact ih (hz _ _ h1)
section
open Classical
/-- the part of a house -/
noncomputable def prt (ys : List Str) (zs : List Ln) (h : Str) : List Str := ys.filter fun t => decide (Jn zs h t)
def Lst (ys : List Str) (zs : List Ln) (h : Str) : Prop := ∀ t ∈ ys, Jn zs h t → ¬ t.cps.toList < h.cps.toList
/-- the parts -/
noncomputable def pts (ys : List Str) (zs : List Ln) : List (List Str) := (ys.filter fun h => decide (Lst ys zs h)).map (prt ys zs)
theorem mem_prt {ys : List Str} {zs : List Ln} {h t : Str} : t ∈ prt ys zs h ↔ t ∈ ys ∧ Jn zs h t := by
  unfold prt
  rw [List.mem_filter, decide_eq_true_iff]
theorem prt_congr {ys : List Str} {zs zs' : List Ln} (hc : ∀ a b, Jn zs a b ↔ Jn zs' a b) (h : Str) : prt ys zs h = prt ys zs' h := by
  unfold prt
  simp only [hc]
theorem pts_congr {ys : List Str} {zs zs' : List Ln} (hc : ∀ a b, Jn zs a b ↔ Jn zs' a b) : pts ys zs = pts ys zs' := by
  have e : prt ys zs = prt ys zs' := funext fun h => prt_congr hc h
  unfold pts
  rw [e]
  exact congrArg _ (List.filter_congr fun h _ => decide_eq_decide.mpr (by unfold Lst; simp only [hc]))
theorem prt_perm {ys : List Str} {zs : List Ln} {h : Str} {cs : List Ct} (hn : ys.Nodup) (T : Tl ys zs h cs) : (prt ys zs h).Perm (cs.map (·.1)) := by
  refine (List.perm_ext_iff_of_nodup (show (prt ys zs h).Nodup from hn.sublist (List.filter_sublist ..)) T.nd).mpr fun t => ?_
  rw [mem_prt, T.jn]
  constructor
  · exact fun h => h.2
  · intro h
    refine ⟨?_, h⟩
    obtain ⟨c, k1, rfl⟩ := List.mem_map.mp (T.jn.mpr h)
    exact T.sub c k1
theorem prt_srt {ys : List Str} {zs : List Ln} {h : Str} (hs : ys.Pairwise leS) : (prt ys zs h).Pairwise leS := hs.filter _
theorem prt_len {ys : List Str} {zs : List Ln} {h : Str} : (prt ys zs h).length ≤ ys.length := List.length_filter_le ..
theorem pts_len {ys : List Str} {zs : List Ln} : (pts ys zs).length ≤ ys.length := by
  unfold pts
  rw [List.length_map]
  exact List.length_filter_le ..
/-- two houses of one part have the same part -/
theorem prt_same {ys : List Str} {zs : List Ln} (hz : ∀ z ∈ zs, z.2.1 ≠ z.2.2) {a b : Str} (h : Jn zs a b) : prt ys zs a = prt ys zs b := by
  unfold prt
  refine List.filter_congr fun t _ => ?_
  rw [decide_eq_decide]
  exact ⟨fun k => (h.symm hz).trans k, fun k => h.trans k⟩
/-- the parts, house by house: those whose house is the least one of its part -/
theorem least_iff {ys : List Str} {zs : List Ln} (hz : ∀ z ∈ zs, z.2.1 ≠ z.2.2) (hs : ys.Pairwise leS) (hn : ys.Nodup) {dn rs : List Str} {x : Str} (e : ys = dn ++ x :: rs) : Lst ys zs x ↔ ¬ ∃ h ∈ dn, Jn zs h x := by
  subst e
  obtain ⟨_, p2, p3⟩ := List.pairwise_append.mp hs
  constructor
  · rintro h ⟨t, h1, h2⟩
    refine h t (List.mem_append_left _ h1) (h2.symm hz) ?_
    have k1 := p3 t h1 x (List.mem_cons_self ..)
    have k2 : t ≠ x := fun e => by
      subst e
      exact (List.nodup_append.mp hn).2.2 t h1 t (List.mem_cons_self ..) rfl
    exact str_ne_lt k2 k1
  · intro h t ht hj hlt
    rcases List.mem_append.mp ht with ht | ht
    · exact h ⟨t, ht, hj.symm hz⟩
    · rcases List.mem_cons.mp ht with rfl | ht
      · exact List.lt_irrefl _ hlt
      · exact (List.pairwise_cons.mp p2).1 t ht hlt
end
theorem less_near {ys hs : List Str} {ls zs : List Ln} {wo : D} (hw : WebOk ys ls zs) (hp : ys.Perm hs) : ∀ z ∈ less ls wo, z.2.1 ∈ hs ∧ z.2.2 ∈ hs ∧ z.2.1 ≠ z.2.2 := fun z hz => by
  have hz := (List.mem_filter.mp hz).1
  exact ⟨hp.mem_iff.mp (hw.ok.inn z hz).1, hp.mem_iff.mp (hw.ok.inn z hz).2, (lnok_near hw.ok z hz).2.2⟩
theorem less_jn {ys : List Str} {ls zs : List Ln} {wo : D} (hw : WebOk ys ls zs) (a b : Str) : Jn (less zs wo) a b ↔ Jn (less ls wo) a b :=
  Jn.congr fun a b => adj_congr (fun z hz => (less_near hw (List.Perm.refl ys) z ((hw.perm.filter _).subset hz)).2.2) (less_mem hw.perm) a b

/-! ### dicts made of lists -/
theorem valD_map {α : Type} {f : α → Key × D} : ∀ {l : List α} {a : α}, (l.map fun x => (f x).1).Nodup → a ∈ l → valD (l.map f) (f a).1 = some (f a).2
  | p :: r, a, hn, ha => by
    rw [List.map_cons, List.nodup_cons] at hn
    rw [List.map_cons]
    rcases List.mem_cons.mp ha with rfl | ha
    · exact valD_pos rfl
    · have hne : ¬ (f p).1 = (f a).1 := fun e => hn.1 (by
        rw [e]
        exact List.mem_map.mpr ⟨a, ha, rfl⟩)
      rw [valD_neg hne]
      exact valD_map hn.2 ha
theorem ks_nd {α : Type} {g : α → Str} {l : List α} (h : (l.map g).Nodup) : (l.map fun x => ks (g x)).Nodup := by
  have : l.map (fun x => ks (g x)) = (l.map g).map ks := by rw [List.map_map]; rfl
  rw [this]
  exact List.Pairwise.map _ (fun a b hne e => hne (Sum.inr.inj e)) h
/-! ### less of the memory -/
theorem le_over {μ ν : Mu} {s : Addr} {m : MO} (h : Le μ ν) : Le (mup μ s m) (mup ν s m) := fun a o e => by
  by_cases h1 : a = s
  · subst h1
    rw [mup_same] at e ⊢
    exact e
  · rw [mup_ne h1] at e ⊢
    exact h a o e
theorem le_on {μ ν : Mu} {a : Addr} {o : MO} (h : Le μ ν) (ha : μ a = none) : Le μ (mup ν a o) := fun b u e => by
  have hb : b ≠ a := fun e2 => by rw [e2, ha] at e; cases e
  rw [mup_ne hb]
  exact h b u e
theorem le_up {μ ν : Mu} {a : Addr} {o : MO} (h : Le μ ν) (ha : μ a = none) : Le μ (mup ν a o) := le_on h ha
theorem le_none {μ ν : Mu} {a : Addr} (h : Le μ ν) (ha : ν a = none) : μ a = none := by
  cases e : μ a with
  | none => rfl
  | some o => rw [h a o e] at ha; cases ha
theorem valD_none : ∀ {kvs : List (Key × D)} {k : Key}, k ∉ kvs.map (·.1) → valD kvs k = none
  | [], _, _ => rfl
  | p :: r, k, h => by
    rw [valD_neg fun e => h (by rw [← e]; exact List.mem_cons_self ..)]
    exact valD_none fun hm => h (List.mem_cons_of_mem _ hm)
/-- a dict comprehension over a list that is g of zs, whose keys differ -/
theorem dc_mapZ {α : Type} {tg : TG2} {tk tv : TE2} {δ0 : Sg} {kk : List (Key × D) → Mu → Prop} {μ : Mu} (zs : List α) (g : α → D) (f : α → Key × D) (hn : (zs.map fun z => (f z).1).Nodup) (hl : zs.length < sizeLine)
    (hs : ∀ z ∈ zs, ∀ Y : D → D → Mu → Prop, (∀ y, keyD y = some (f z).1 → Y y (f z).2 μ) → tg (g z) δ0 μ fun δ1 μ1 => tk δ1 μ1 fun y μ3 => tv δ1 μ3 fun v μ4 => Y y v μ4) (hd : kk (zs.map f) μ) : jDcl tg jYes tk tv δ0 (fun _ => True) kk (zs.map g) [] μ := by
  refine dc_inv (fun r acc μ' => μ' = μ ∧ ∃ dn us : List α, zs = dn ++ us ∧ r = us.map g ∧ acc = dn.map f) (fun _ _ _ _ => trivial) ?_ ?_ _ _ _ ⟨rfl, [], zs, rfl, rfl, rfl⟩
  · rintro x r acc μ' ⟨rfl, dn, us, h1, h2, rfl⟩ N hN
    cases us with
    | nil => cases h2
    | cons u us =>
    rw [List.map_cons] at h2
    injection h2 with e4 e5
    subst e4 e5
    have hlen := congrArg List.length h1
    rw [List.length_append, List.length_cons] at hlen
    have hnew : (f u).1 ∉ (dn.map f).map (·.1) := by
      rw [h1, List.map_append] at hn
      intro hm
      rw [List.map_map] at hm
      exact (List.nodup_append.mp hn).2.2 _ hm _ (by simp) rfl
    refine hs u (by rw [h1]; simp) _ fun y hy => ⟨_, hy, by rw [List.length_map]; omega, ?_⟩
    rw [keys_put_new (valD_none hnew)]
    exact hN _ _ ⟨rfl, dn ++ [u], us, by rw [h1]; simp, rfl, by rw [List.map_append]; rfl⟩
  · rintro acc μ' ⟨rfl, dn, us, h1, h2, rfl⟩
    cases us with
    | cons u us => cases h2
    | nil =>
      rw [List.append_nil] at h1
      subst h1
      exact hd
/-- a loop over a list that is g of zs, by what holds behind its first items -/
theorem loop_Z {α : Type} {tg : TG2} {tb : TS2} {G : Mu → Prop} {D1 : Ends2} (zs : List α) (g : α → D) (P : List α → Sg → Mu → Prop) (hG : ∀ dn δ μ, P dn δ μ → G μ)
    (hs : ∀ dn z rs δ μ, zs = dn ++ z :: rs → P dn δ μ → ∀ QN : Sg → Mu → Prop, (∀ δ' μ', P (dn ++ [z]) δ' μ' → QN δ' μ') → tg (g z) δ μ fun δ' μ' => tb { nx := QN, rt := D1.rt, bk := D1.nx, ct := QN } δ' μ')
    (hd : ∀ δ μ, P zs δ μ → D1.nx δ μ) (δ : Sg) (μ : Mu) (p : P [] δ μ) : jLoop tg tb G D1 (zs.map g) δ μ := by
  refine loop_inv (fun r δ μ => ∃ dn rs, zs = dn ++ rs ∧ r = rs.map g ∧ P dn δ μ) (fun _ _ _ ⟨_, _, _, _, h⟩ => hG _ _ _ h) ?_ ?_ _ _ _ ⟨[], zs, rfl, rfl, p⟩
  · rintro x r δ μ ⟨dn, rs, h1, h2, hp⟩ QN hN
    cases rs with
    | nil => cases h2
    | cons z rs =>
    rw [List.map_cons] at h2
    injection h2 with e4 e5
    subst e4 e5
    exact hs dn z rs δ μ h1 hp QN fun δ' μ' h => hN _ _ ⟨dn ++ [z], rs, by rw [h1]; simp, rfl, h⟩
  · rintro δ μ ⟨dn, rs, h1, h2, hp⟩
    cases rs with
    | cons z rs => cases h2
    | nil =>
      rw [List.append_nil] at h1
      subst h1
      exact hd δ μ hp
theorem seq_on {μ : Mu} {p : Addr} {o : MO} {v : D} {xs : List D} (h : SeqAt μ v xs) (hp : μ p = none) : SeqAt (mup μ p o) v xs := by
  rcases h with (rfl | ⟨a, rfl, h⟩) | rfl
  · exact .inl .f
  · exact .inl (.m ((mup_ne fun e => by rw [e, hp] at h; cases h).trans h))
  · exact .inr rfl
theorem seq_le {μ ν : Mu} {v : D} {xs : List D} (h : SeqAt μ v xs) (hl : Le μ ν) : SeqAt ν v xs := by
  rcases h with (rfl | ⟨a, rfl, h⟩) | rfl
  · exact .inl .f
  · exact .inl (.m (hl _ _ h))
  · exact .inr rfl
theorem ln_one {ls : List Ln} (hn : (ls.map (·.1)).Nodup) {y z : Ln} (hy : y ∈ ls) (hz : z ∈ ls) (e : y.1 = z.1) : y = z := by
  induction ls with
  | nil => cases hz
  | cons x r ih =>
    rw [List.map_cons, List.nodup_cons] at hn
    rcases List.mem_cons.mp hy with rfl | k1
    · rcases List.mem_cons.mp hz with rfl | k2
      · rfl
      · exact absurd (by rw [e]; exact List.mem_map_of_mem k2) hn.1
    · rcases List.mem_cons.mp hz with rfl | k2
      · exact absurd (by rw [← e]; exact List.mem_map_of_mem k1) hn.1
      · exact ih hn.2 k1 k2
theorem seq_walkA {v : D} {xs : List D} {μ : Mu} {R : List D → (Mu → Prop) → Mu → Prop} (h : SeqAt μ v xs) (hR : ∀ G : Mu → Prop, (∀ ν, SeqAt ν v xs → G ν) → R xs G μ) : iSeq' v μ R := by
  rcases h with (rfl | ⟨a, rfl, h⟩) | rfl
  · exact hR _ fun _ _ => trivial
  · exact ⟨xs, h, hR _ fun ν hν => by
      rcases hν with (e | ⟨b, e, h⟩) | e
      · cases e
      · cases e; exact h
      · cases e⟩
  · exact hR _ fun _ _ => trivial
theorem x_slA {v : D} {xs : List D} {lo hi : Option Int} {μ : Mu} {Q : QE} (hv : SeqAt μ v xs) (h : NewL (cutD xs lo hi) μ Q) : sl2 v lo hi μ Q := .inl ⟨xs, hv, h⟩
theorem x_addA {v w : D} {xs ys : List D} {μ : Mu} {Q : QE} (hv : LstAt μ v xs) (hw : LstAt μ w ys) (hl : xs.length + ys.length ≤ sizeLine) (h : NewL (xs ++ ys) μ Q) : add2 v w μ Q := by
  rcases hv with rfl | ⟨a, rfl, ha⟩ <;> rcases hw with rfl | ⟨b, rfl, hb⟩
  · exact ⟨xs, ys, .f, .f, hl, h⟩
  · exact ⟨xs, ys, .f, .m hb, hl, h⟩
  · exact ⟨xs, ys, .m ha, .f, hl, h⟩
  · exact ⟨xs, ys, .m ha, .m hb, hl, h⟩
theorem le_re {μ ν : Mu} {s : Addr} {m m' : MO} (h : Le (mup μ s m) ν) : Le (mup μ s m') (mup ν s m') := fun a o e => by
  by_cases h1 : a = s
  · subst h1
    rw [mup_same] at e ⊢
    exact e
  · rw [mup_ne h1] at e ⊢
    exact h a o (by rw [mup_ne h1]; exact e)
theorem le_del {μ ν : Mu} {a : Addr} (h : Le μ ν) (ha : μ a = none) : Le μ (mdel ν a) := fun b u e => by
  have hb : b ≠ a := fun e2 => by rw [e2, ha] at e; cases e
  rw [mdel_ne hb]
  exact h b u e
theorem lns_of {ys : List D} (h : ∀ y ∈ ys, ∃ z : Ln, y = lnD z) : ∃ st : List Ln, ys = st.map lnD := by
  induction ys with
  | nil => exact ⟨[], rfl⟩
  | cons y r ih =>
    obtain ⟨z, rfl⟩ := h y (List.mem_cons_self ..)
    obtain ⟨st, rfl⟩ := ih fun x hx => h x (List.mem_cons_of_mem _ hx)
    exact ⟨z :: st, rfl⟩
/-- sorted(xs), xs a list or a tuple of texts -/
theorem x_sortedT {v : D} {ss : List Str} {μ : Mu} {Q : QE} (hv : SeqAt μ v (ss.map D.str) ∨ v = .tup (ss.map D.str)) (h : ∀ ys : List Str, ys.Perm ss → ys.Pairwise leS → NewL (ys.map D.str) μ Q) : sorted1 [v] μ Q := .inr <| .inl ⟨ss, hv, fun ys h1 h2 => h ys h1 (sortedS_pw ys h2)⟩
theorem nd_of_map {α β : Type} {f : α → β} {l : List α} (h : (l.map f).Nodup) : l.Nodup := (List.pairwise_map.mp h).imp fun h e => h (congrArg f e)
theorem strs_of {ys : List D} (h : ∀ y ∈ ys, ∃ t : Str, y = .str t) : ∃ ts : List Str, ys = ts.map D.str := by
  induction ys with
  | nil => exact ⟨[], rfl⟩
  | cons y r ih =>
    obtain ⟨t, rfl⟩ := h y (List.mem_cons_self ..)
    obtain ⟨ts, rfl⟩ := ih fun x hx => h x (List.mem_cons_of_mem _ hx)
    exact ⟨t :: ts, rfl⟩
/-- a new list, told from where it stands -/
theorem newL_at {p : Addr} {xs : List D} {μ : Mu} {Q : QE} (hp : μ p = none) (h : NewL xs μ Q) : Upd Q (.ref p) (mup μ p (.lst xs)) := by
  rcases h with h | h
  · exact .lst mup_same (by rw [mdel_mup hp]; exact h)
  · exact .of (h p hp)
/-- a comprehension over range(n): what holds behind k turns -/
theorem lc_rng {tg : TG2} {te : TE2} {δ0 : Sg} {k0 : List D → Mu → Prop} {n : Nat} (P : Nat → List D → Mu → Prop)
    (hs : ∀ k acc μ, k < n → P k acc μ → ∀ N : D → Mu → Prop, (∀ y μ', P (k + 1) (acc ++ [y]) μ' → N y μ') → tg (.int (k : Nat)) δ0 μ fun δ1 μ1 => te δ1 μ1 N) (hl : n < sizeLine)
    (hd : ∀ acc μ, acc.length = n → P n acc μ → k0 acc μ) (μ : Mu) (p : P 0 [] μ) : jLcl tg jYes te δ0 (fun _ => True) k0 (rngD 0 n) [] μ := by
  rw [rngD_eq]
  refine lc_inv (fun r acc μ => ∃ k, r = (List.range' k (n - k)).map (fun i : Nat => D.int (i : Nat)) ∧ k ≤ n ∧ acc.length = k ∧ P k acc μ) (fun _ _ _ _ => trivial) ?_ ?_ _ _ _ ⟨0, by rw [Nat.sub_zero], Nat.zero_le _, rfl, p⟩
  · rintro x r acc μ ⟨k, hr, hk, ha, p⟩ N hN
    have hkn : k < n := Decidable.byContradiction fun h => by rw [show n - k = 0 by omega] at hr; cases hr
    rw [show n - k = (n - (k + 1)) + 1 by omega, List.range'_succ, List.map_cons] at hr
    injection hr with e4 e5
    subst e4 e5
    have h := hs k acc μ hkn p (fun y μ3 => acc.length < sizeLine ∧ N (acc ++ [y]) μ3) fun y μ' q => ⟨by omega, hN _ _ ⟨k + 1, rfl, by omega, by rw [List.length_append, ha]; rfl, q⟩⟩
    exact h
  · rintro acc μ ⟨k, hr, hk, ha, p⟩
    have hkn : k = n := Decidable.byContradiction fun h => by rw [show n - k = (n - (k + 1)) + 1 by omega, List.range'_succ] at hr; cases hr
    subst hkn
    exact hd acc μ ha p
theorem fold_mem (a : Array Nat) (c : Nat) : ∀ (n : Nat) (acc : Array Nat), c ∈ ((List.replicate n a).foldl (fun x1 x2 => x1 ++ x2) acc).toList → c ∈ acc.toList ∨ c ∈ a.toList
  | 0, acc, h => .inl h
  | n + 1, acc, h => by
    rw [List.replicate_succ, List.foldl_cons] at h
    rcases fold_mem a c n _ h with h | h
    · rw [Array.toList_append] at h
      exact List.mem_append.mp h
    · exact .inr h
theorem mul_mem {x : Str} {n : Int} {c : Nat} (h : c ∈ (Txt.mul x n).cps.toList) : c ∈ x.cps.toList := by
  unfold Txt.mul at h
  split at h
  · exact absurd h (by simp [Str.empty])
  · split at h
    · exact h
    · rcases fold_mem _ _ _ _ h with h | h
      · simp at h
      · exact h

/-! ### equality of data -/
def Lay (n : Nat) (x : D) : Prop := x.pl = true ∧ PyData.depth x.py ≤ n
theorem Lay.str {n : Nat} {s : Str} : Lay n (.str s) := ⟨rfl, Nat.zero_le _⟩
theorem Lay.int {n : Nat} {i : Int} : Lay n (.int i) := ⟨rfl, Nat.zero_le _⟩
theorem Lay.bl {n : Nat} {b : Bool} : Lay n (.bl b) := ⟨rfl, Nat.zero_le _⟩
theorem Lay.non {n : Nat} : Lay n .non := ⟨rfl, Nat.zero_le _⟩
theorem lays {n : Nat} : ∀ {xs : List D}, (∀ x ∈ xs, Lay n x) → D.pls xs = true ∧ PyData.depthAll (D.pys xs) ≤ n
  | [], _ => ⟨rfl, Nat.zero_le _⟩
  | x :: r, h => by
    obtain ⟨h1, h3⟩ := h x (List.mem_cons_self ..)
    obtain ⟨k1, k3⟩ := lays fun y hy => h y (List.mem_cons_of_mem _ hy)
    refine ⟨?_, ?_⟩
    · show (x.pl && D.pls r) = true
      rw [h1, k1]; rfl
    · show max (PyData.depth x.py) (PyData.depthAll (D.pys r)) ≤ n
      omega
theorem Lay.lst {n : Nat} {xs : List D} (h : ∀ x ∈ xs, Lay n x) : Lay (n + 1) (.lst xs) := ⟨(lays h).1, Nat.succ_le_succ (lays h).2⟩
theorem Lay.tup {n : Nat} {xs : List D} (h : ∀ x ∈ xs, Lay n x) : Lay (n + 1) (.tup xs) := ⟨(lays h).1, Nat.succ_le_succ (lays h).2⟩
theorem Lay.strs {n : Nat} {ss : List Str} : ∀ x ∈ ss.map D.str, Lay n x := fun x hx => by
  obtain ⟨t, _, rfl⟩ := List.mem_map.mp hx
  exact Lay.str
theorem Lay.two {n : Nat} {a b : D} (ha : Lay n a) (hb : Lay n b) : ∀ x ∈ [a, b], Lay n x := fun x hx => by
  simp only [List.mem_cons, List.not_mem_nil, or_false] at hx
  rcases hx with rfl | rfl
  · exact ha
  · exact hb
theorem eqv_two {a b c d : Str} : PyData.eqv (D.tup [.str a, .str b]).py (D.tup [.str c, .str d]).py = decide ((a, b) = (c, d)) := by
  show ((a == c) && ((b == d) && true)) = _
  rw [Bool.and_true]
  by_cases h1 : a = c
  · by_cases h2 : b = d
    · subst h1 h2; simp
    · rw [decide_eq_false (fun e => h2 (Prod.mk.inj e).2), beq_eq_false_iff_ne.mpr h2, Bool.and_false]
  · rw [decide_eq_false (fun e => h1 (Prod.mk.inj e).1), beq_eq_false_iff_ne.mpr h1, Bool.false_and]
theorem x_neTT {a b c d : Str} {μ : Mu} {Q : QE} (q : Q (.bl (!decide ((a, b) = (c, d)))) μ) : ne2 (.tup [.str a, .str b]) (.tup [.str c, .str d]) μ Q :=
  ⟨_, _, .f, .f, rfl, rfl, Nat.le_of_ble_eq_true rfl, Nat.le_of_ble_eq_true rfl, by rw [eqv_two, Bool.true_xor]; exact q⟩
theorem x_eqV {x y dx dy : D} {μ : Mu} {Q : QE} {n m : Nat} (hx : Vw μ x dx) (hy : Vw μ y dy) (l1 : Lay n dx) (l2 : Lay m dy) (h1 : n ≤ 64) (h2 : m ≤ 64) (q : Q (.bl (PyData.eqv dx.py dy.py)) μ) : eq2 x y μ Q := by
  have e : eqD false x y μ Q := ⟨dx, dy, hx, hy, l1.1, l2.1, Nat.le_trans l1.2 h1, Nat.le_trans l2.2 h2, by rw [Bool.false_xor]; exact q⟩
  rcases hx with rfl | ⟨a, xs, rfl, _⟩ <;> rcases hy with rfl | ⟨b, ys, rfl, _⟩
  · cases x <;> cases y <;> first | exact e | exact q | (rw [show PyData.eqv (D.py _) (D.py _) = decide (_ = _) from Bool.beq_eq_decide_eq _ _] at q; exact q)
  · cases x <;> exact e
  · cases y <;> exact e
  · exact e
theorem x_neV {x y dx dy : D} {μ : Mu} {Q : QE} {n m : Nat} (hx : Vw μ x dx) (hy : Vw μ y dy) (l1 : Lay n dx) (l2 : Lay m dy) (h1 : n ≤ 64) (h2 : m ≤ 64) (q : Q (.bl (!PyData.eqv dx.py dy.py)) μ) : ne2 x y μ Q := by
  have e : eqD true x y μ Q := ⟨dx, dy, hx, hy, l1.1, l2.1, Nat.le_trans l1.2 h1, Nat.le_trans l2.2 h2, by rw [Bool.true_xor]; exact q⟩
  rcases hx with rfl | ⟨a, xs, rfl, _⟩ <;> rcases hy with rfl | ⟨b, ys, rfl, _⟩
  · cases x <;> cases y <;> first | exact e | exact q | (rw [show PyData.eqv (D.py _) (D.py _) = decide (_ = _) from Bool.beq_eq_decide_eq _ _] at q; exact q)
  · cases x <;> exact e
  · cases y <;> exact e
  · exact e
theorem eqv_strs : ∀ as bs : List Str, PyData.eqvAll (D.pys (as.map D.str)) (D.pys (bs.map D.str)) = decide (as = bs)
  | [], [] => rfl
  | [], _ :: _ => rfl
  | _ :: _, [] => rfl
  | a :: as, b :: bs => by
    show ((a == b) && PyData.eqvAll (D.pys (as.map D.str)) (D.pys (bs.map D.str))) = _
    rw [eqv_strs as bs]
    by_cases h1 : a = b
    · subst h1
      by_cases h2 : as = bs
      · subst h2; simp
      · rw [decide_eq_false h2, decide_eq_false (by simpa using h2)]; simp
    · rw [show (a == b) = false from beq_eq_false_iff_ne.mpr h1, decide_eq_false fun e => h1 (List.cons.inj e).1]; rfl

/-! ### a list bent -/
theorem at_in2 {xs : List D} {r : Int} (h0 : 0 ≤ r) (h : r < xs.length) : ∃ d, d ∈ xs ∧ atI xs r = some d := by
  obtain ⟨k, rfl⟩ : ∃ k : Nat, r = k := ⟨r.toNat, by omega⟩
  have hk : k < xs.length := by omega
  exact ⟨xs[k], List.getElem_mem hk, atI_some (List.getElem?_eq_getElem hk)⟩
theorem take_n {n : Nat} {r : Int} (h : 0 < n) (a2 : (n : Int) < 2 → r = 0) (a3 : 2 ≤ (n : Int) → r < n) : r < n := by
  by_cases h1 : (n : Int) < 2
  · have := a2 h1; omega
  · exact a3 (by omega)

/-! ### mixed -/
def sp_l_mixed : Sp2 := fun ds μ Q _ => ∃ (s : Addr) (m : MO) (v : D) (xs : List D), ds = [.ref s, v] ∧ μ s = some m ∧ IsSt m ∧ LV μ s v xs ∧ xs.length < 100000 ∧ ∀ (ys : List D) (m' : MO), ys.Perm xs → IsSt m' → NewL ys (mup μ s m') Q
theorem len_l_mixed (ds : List D) (μ : Mu) (Q : QE) (ex : Ex2) (h : sp_l_mixed ds μ Q ex) : ds.length = 2 := by
  obtain ⟨s, m, v, xs, rfl, _⟩ := h
  rfl
theorem lv_list2 {μ : Mu} {s : Addr} {v : D} {xs : List D} {Q : QE} (h : LV μ s v xs) (q : NewL xs μ Q) : list1 [v] μ Q := by
  rcases h with rfl | ⟨p, rfl, _, hp⟩
  · exact x_listL q
  · exact x_listM hp q
theorem pure_l_mixed (ds : List D) (μ : Mu) (Q : QE) (ex : Ex2) (h : sp_l_mixed ds μ Q ex) : t_l_mixed sp_l_take (ends Q) (startD ["a", "b", "c", "d", "e"] ds) μ := by
  obtain ⟨s, m, v, xs, rfl, hs, hm, hv, hl, q⟩ := h
  unfold t_l_mixed
  show jSeq _ _ (ends Q) [some _, some _, none, none, none] μ
  walk_at "js"
  refine lv_list2 hv (.m fun p hp => ?_)
  have hps : p ≠ s := fun z => by rw [z, hs] at hp; cases hp
  have cm : ∀ (m m' : MO) (xs : List D), mup (mup (mup μ s m) p (.lst xs)) s m' = mup (mup μ s m') p (.lst xs) := fun m m' xs => by rw [mup_comm hps, mup_mup]
  have sm : ∀ (m : MO) (xs : List D), (mup (mup μ s m) p (.lst xs)) s = some m := fun m xs => (mup_ne hps.symm).trans mup_same
  have e0 : mup μ p (.lst xs) = mup (mup μ s m) p (.lst xs) := by rw [mup_self hs]
  rw [e0]
  walk_at "js"
  refine ⟨_, rfl, by unfold rngOk; omega, ?_⟩
  rw [show Int.toNat (xs.length : Int) = xs.length from rfl]
  refine loop_rng (n := xs.length) (fun k δ μ' => ∃ (ys : List D) (m' : MO) (o u : Option D), ys.Perm xs ∧ IsSt m' ∧ μ' = mup (mup μ s m') p (.lst ys) ∧ δ = [some (.ref s), some v, some (.ref p), o, u])
    (fun _ _ _ _ => trivial) ?_ ?_ _ _ ⟨xs, m, _, _, .refl _, hm, rfl, rfl⟩
  · rintro k δ μ' hk ⟨ys, m', o, u, hp2, hm', rfl, rfl⟩ QN hN
    have hyl : ys.length = xs.length := hp2.length_eq
    walk_at "js"
    refine ⟨s, _, m', rfl, sm _ _, hm', by omega, fun r2 m2 hm2 h02 h1 h2 => .of ?_⟩
    rw [cm]
    have hr2 : r2 < (xs.length : Int) - k := by
      by_cases h : (ys.length : Int) - (k : Int) < 2
      · rw [h1 h]; omega
      · have := h2 (by omega); omega
    obtain ⟨j, rfl⟩ := Int.eq_ofNat_of_zero_le h02
    have hkl : k < ys.length := by omega
    have hjl : k + j < ys.length := by omega
    have e1 : atI ys (k : Int) = some ys[k] := atI_some (List.getElem?_eq_getElem hkl)
    have e2 : atI ys ((k : Int) + (j : Int)) = some ys[k + j] := atI_some (List.getElem?_eq_getElem hjl)
    walk_at "js"
    refine x_ixM mup_same e2 ?_
    walk_at "js"
    refine x_ixM mup_same e1 ?_
    walk_at "js"
    refine x_setL mup_same (ixN_nat hkl) ?_
    rw [mup_mup]
    walk_at "js"
    refine x_setL mup_same (by exact ixN_nat (n := (ys.set k ys[k + j]).length) (k := k + j) (by rw [List.length_set]; exact hjl)) ?_
    rw [mup_mup]
    walk_at "js"
    exact hN _ _ ⟨_, m2, _, _, (swap_perm (List.getElem?_eq_getElem hkl) (List.getElem?_eq_getElem hjl)).trans hp2, hm2, rfl, rfl⟩
  · rintro δ μ' ⟨ys, m', o, u, hp2, hm', rfl, rfl⟩
    walk_at "js"
    exact newL_at ((mup_ne hps).trans hp) (q ys m' hp2 hm')
/-! ### words -/
def sp_l_words : Sp2 := fun ds μ Q _ => ∃ (s : Addr) (m : MO) (n : Nat), ds = [.ref s, .int n] ∧ μ s = some m ∧ IsSt m ∧ n ≤ 1296 ∧ ∀ (ys : List Str) (m' : MO), IsSt m' → Nms n ys → NewL (ys.map D.str) (mup μ s m') Q
theorem len_l_words (ds : List D) (μ : Mu) (Q : QE) (ex : Ex2) (h : sp_l_words ds μ Q ex) : ds.length = 2 := by
  obtain ⟨s, m, n, rfl, _⟩ := h
  rfl
theorem newL_le {xs : List D} {μ ν : Mu} {Q : QE} (hl : Le μ ν) (h : NewL xs μ Q) : NewL xs ν (Upd Q) := by
  rcases h with h | h
  · exact .inl (.drop hl h)
  · exact .inr fun p hp => .drop (le_over hl) (h p (le_none hl hp))
theorem pure_l_words (ds : List D) (μ : Mu) (Q : QE) (ex : Ex2) (h : sp_l_words ds μ Q ex) : t_l_words sp_l_take sp_l_mixed (ends Q) (startD ["a", "b", "c", "d", "e", "f", "g", "h", "i", "j", "k"] ds) μ := by
  obtain ⟨s, m, n, rfl, hs, hm, hn, q⟩ := h
  have hsz := sizeLine_eq
  unfold t_l_words
  show jSeq _ _ (ends Q) [some _, some _, none, none, none, none, none, none, none, none, none] μ
  walk_at "js"
  refine ⟨s, 26, m, rfl, hs, hm, by decide, fun r m1 hm1 a1 _ a3 => .of ?_⟩
  have a3 := a3 (by decide)
  obtain ⟨r, rfl⟩ : ∃ k : Nat, r = k := ⟨r.toNat, by omega⟩
  obtain ⟨f, hf⟩ := d36_at (k := 10 + r) (by omega)
  refine x_ixS (c := f) (Nat.le_of_ble_eq_true (by with_unfolding_all rfl)) (atI_nat (j := 10 + r) hf) ?_
  have hlt : lt f = true := by
    have h1 : (d36L.drop 10).all lt = true := by decide +kernel
    refine List.all_eq_true.mp h1 f (List.mem_of_getElem? (i := r) ?_)
    rw [List.getElem?_drop]
    exact hf
  have hsg : sgn f = true := by unfold sgn; rw [hlt]; rfl
  walk_at "js"
  refine ⟨s, 4, m1, rfl, mup_same, hm1, by decide, fun y m2 hm2 b1 _ b3 => .of ?_⟩
  rw [mup_mup]
  have b3 := b3 (by decide)
  obtain ⟨y, rfl⟩ : ∃ k : Nat, y = k := ⟨y.toNat, by omega⟩
  have fin : ∀ (v : D) (ys : List Str) (m : MO) (ν : Mu), Nms n ys → IsSt m → Le (mup μ s m) ν → LV ν s v (ys.map D.str) → sp_l_mixed [.ref s, v] ν (Upd (Upd Q)) noEx := by
    intro v ys m ν h hm hle hv
    refine ⟨s, m, v, _, rfl, hle s m mup_same, hm, hv, by rw [List.length_map, h.1]; omega, fun zs m' hz hm' => ?_⟩
    obtain ⟨ks, hk, rfl⟩ := perm_strs hz
    rcases newL_le (le_re (m' := m') hle) (q ks m' hm' (h.perm hk)) with hN | hN
    · exact .inl (.of hN)
    · exact .inr fun p hp => .of (hN p hp)
  walk_at "js"
  refine w_and2 (c1 := (y : Int) = 0) (c2 := (n : Int) ≤ 12) (fun h => by (walk_at "js"; exact h)) (fun _ h12 => ?_) (fun _ => ?_)
  · walk_at "js"
    refine ⟨_, rfl, by unfold rngOk; omega, ?_⟩
    rw [show Int.toNat (n : Int) = n from rfl]
    refine lc_rng (fun k acc μ' => ∃ ys : List Str, acc = ys.map D.str ∧ Wl (W0 f f) k ys ∧ μ' = mup μ s m2) ?_ (by omega) ?_ _ ⟨[], rfl, .nil, rfl⟩
    · rintro k acc μ' hk ⟨ys, rfl, hw, rfl⟩ N hN
      walk_at "js"
      refine x_mulS (L := 1) (N := 12) (by rw [lenS1]; omega) (by decide) (by decide) (by decide) (by decide) fun z hz hz2 => ?_
      rw [show (12 : Int) = ((12 : Nat) : Int) from rfl, mul_rep] at hz2
      subst hz2
      walk_at "js"
      refine x_slS (by omega) ?_
      have e1 : cutS (⟨⟨List.replicate 12 f⟩⟩ : Str) none (some ((k : Int) + 1)) = ⟨⟨f :: List.replicate k f⟩⟩ := by
        unfold cutS
        have hl : (⟨⟨List.replicate 12 f⟩⟩ : Str).length = 12 := rfl
        have h2 : HT.sIx 12 12 (some ((k : Int) + 1)) = k + 1 := by
          unfold HT.sIx
          simp only
          split <;> omega
        rw [hl, show HT.sIx 12 0 none = 0 from rfl, h2, List.drop_zero, Nat.sub_zero]
        refine congrArg Str.mk (Array.ext' ?_)
        rw [List.toList_toArray]
        show (List.replicate 12 f).take (k + 1) = _
        rw [List.take_replicate, Nat.min_eq_left (by omega), List.replicate_succ]
      rw [e1]
      exact hN _ _ ⟨ys ++ [_], by rw [List.map_append]; rfl, hw.app rfl, rfl⟩
    · rintro acc μ' _ ⟨ys, rfl, hw, rfl⟩
      refine .f ?_
      walk_at "js"
      exact fin _ ys m2 _ (W0.nms hw hlt hsg (by omega)) hm2 Le.rfl' (.inl rfl)
  walk_at "js"
  refine ⟨s, 6, m2, rfl, mup_same, hm2, by decide, fun z m3 hm3 h0 _ h1 => .of ?_⟩
  rw [mup_mup]
  have h2 := h1 (by decide)
  walk_at "js"
  refine ⟨_, rfl, by unfold rngOk; omega, ?_⟩
  refine loop_rng (fun k δ μ' => ∃ (ah : List Nat) (m : MO) (o : Option D), ah.length = k + 1 ∧ nm1 ah = true ∧ IsSt m ∧ μ' = mup μ s m ∧ δ = [some (.ref s), some (.int n), some (.str "0123456789abcdefghijklmnopqrstuvwxyz"), some (.str ⟨⟨ah⟩⟩), some (.int y), o, none, none, none, none, none]) (fun _ _ _ _ => trivial) ?_ ?_ _ _ ⟨[f], m3, _, rfl, (by unfold nm1; simp [hlt]), hm3, rfl, rfl⟩
  · rintro k δ μ' hk ⟨ah, m, o, ha, hn1, hm, rfl, rfl⟩ QN hN
    walk_at "js"
    refine ⟨s, 36, m, rfl, mup_same, hm, by decide, fun r m4 hm4 c1 _ c3 => .of ?_⟩
    rw [mup_mup]
    have c3 := c3 (by decide)
    obtain ⟨r, rfl⟩ : ∃ k : Nat, r = k := ⟨r.toNat, by omega⟩
    obtain ⟨g, hg⟩ := d36_at (k := r) (by omega)
    refine x_ixS (c := g) (Nat.le_of_ble_eq_true (by with_unfolding_all rfl)) (atI_nat (j := r) hg) ?_
    refine x_addS (by rw [lenL1, lenS1]; omega) ?_
    rw [app1]
    walk_at "js"
    exact hN _ _ ⟨_, m4, _, by rw [List.length_append, ha]; rfl, nm1_app hn1 (d36_all (List.mem_of_getElem? hg)), hm4, rfl, rfl⟩
  rintro δ μ' ⟨ah, m3, o, ha, hn1, hm3, rfl, rfl⟩
  have ha6 : ah.length ≤ 6 := by omega
  walk_at "js"
  refine ⟨s, 36, m3, rfl, mup_same, hm3, by decide, fun r m4 hm4 c1 _ c3 => .of ?_⟩
  rw [mup_mup]
  have c3 := c3 (by decide)
  obtain ⟨r, rfl⟩ : ∃ k : Nat, r = k := ⟨r.toNat, by omega⟩
  obtain ⟨g, hg⟩ := d36_at (k := r) (by omega)
  have hgs := d36_all (List.mem_of_getElem? hg)
  refine x_ixS (c := g) (Nat.le_of_ble_eq_true (by with_unfolding_all rfl)) (atI_nat (j := r) hg) ?_
  walk_at "js"
  refine ⟨s, 3, m4, rfl, mup_same, hm4, by decide, fun t m5 hm5 t0 _ t1 => .of ?_⟩
  rw [mup_mup]
  have t2 := t1 (by decide)
  obtain ⟨t, rfl⟩ : ∃ k : Nat, t = k := ⟨t.toNat, by omega⟩
  refine x_mulS (L := 1) (N := 3) (by rw [lenS1]; omega) (by omega) (by omega) (by decide) (by decide) fun tz _ htz => ?_
  rw [mul_rep] at htz
  subst htz
  walk_at "js"
  refine ⟨s, 1296, m5, rfl, mup_same, hm5, by decide, fun st m6 hm6 s0 _ s1 => .of ?_⟩
  rw [mup_mup]
  have s2 := s1 (by decide)
  obtain ⟨st, rfl⟩ : ∃ k : Nat, st = k := ⟨st.toNat, by omega⟩
  walk_at "js"
  refine .f ?_
  walk_at "js"
  obtain ⟨sp, hsp, hsm⟩ : ∃ sp : Nat, [D.int 1, .int 5, .int 37, .int 1295][y]? = some (.int sp) ∧ sp ∈ stps := by
    match y, b3 with
    | 0, _ => exact ⟨1, rfl, by decide⟩
    | 1, _ => exact ⟨5, rfl, by decide⟩
    | 2, _ => exact ⟨37, rfl, by decide⟩
    | 3, _ => exact ⟨1295, rfl, by decide⟩
    | y + 4, h => exact absurd h (by omega)
  have hsp2 : sp ≤ 1295 := by
    simp only [stps, List.mem_cons, List.not_mem_nil, or_false] at hsm
    omega
  refine x_ixL (atI_some hsp) ?_
  walk_at "js"
  refine .m fun p hp => ?_
  have hps : p ≠ s := fun e => by rw [e, mup_same] at hp; cases hp
  have hpn : μ p = none := (mup_ne hps).symm.trans hp
  walk_at "js"
  refine ⟨_, rfl, by unfold rngOk; omega, ?_⟩
  rw [show Int.toNat (n : Int) = n from rfl]
  refine loop_rng (n := n) (fun k δ μ' => ∃ (ys : List Str) (o1 o2 : Option D), Wl (W2 ah st sp) k ys ∧ μ' = mup (mup μ s m6) p (.lst (ys.map D.str)) ∧ δ = [some (.ref s), some (.int n), some (.str "0123456789abcdefghijklmnopqrstuvwxyz"), some (.str ⟨⟨ah⟩⟩), some (.int y), o1, some (.str ⟨⟨List.replicate t g⟩⟩), some (.int st), some (.int sp), some (.ref p), o2]) (fun _ _ _ _ => trivial) ?_ ?_ _ _ ⟨[], _, _, .nil, rfl, rfl⟩
  · rintro k δ μ' hk ⟨ys, o1, o2, hw, rfl, rfl⟩ QN hN
    walk_at "js"
    refine x_mulR ⟨by omega, by omega⟩ ?_
    walk_at "js"
    rw [show ((st : Int) + (k : Int) * (sp : Int)) % 1296 = ((cod st sp k : Nat) : Int) by unfold cod; push_cast; rfl]
    have hcod : cod st sp k < 1296 := Nat.mod_lt _ (by decide)
    obtain ⟨a, ha1⟩ := d36_at (k := cod st sp k / 36) (by omega)
    obtain ⟨b, hb1⟩ := d36_at (k := cod st sp k % 36) (by omega)
    walk_at "js"
    refine x_ixS (c := a) (Nat.le_of_ble_eq_true (by with_unfolding_all rfl)) (atI_nat (j := cod st sp k / 36) ha1) ?_
    refine x_addS (by rw [lenL1, lenS1]; omega) ?_
    rw [app1]
    walk_at "js"
    refine x_ixS (c := b) (Nat.le_of_ble_eq_true (by with_unfolding_all rfl)) (atI_nat (j := cod st sp k % 36) hb1) ?_
    refine x_addS (by rw [lenL1, lenS1, List.length_append]; simp; omega) ?_
    rw [app1]
    walk_at "js"
    have hrl : (⟨⟨List.replicate t g⟩⟩ : Str).length ≤ 2 := by rw [lenL1, List.length_replicate]; omega
    refine x_mulS (L := 2) (N := 2) hrl (by omega) (by omega) (by decide) (by decide) fun tz htl htz => ?_
    have hts : tz.cps.toList.all sgn = true := List.all_eq_true.mpr fun c hc => by
      rw [htz] at hc
      have := mul_mem hc
      rw [List.eq_of_mem_replicate this]
      exact hgs
    have htl2 : tz.cps.toList.length ≤ 4 := by rw [Array.length_toList]; exact htl
    obtain ⟨⟨tl⟩⟩ := tz
    refine x_addS (by rw [lenL1, lenL1, List.length_append, List.length_append]; simp at htl2 ⊢; omega) ?_
    walk_at "js"
    refine x_append (xs := ys.map D.str) mup_same (by rw [List.length_map, hw.1]; omega) ?_
    rw [mup_mup, appL, show ah ++ [a] ++ [b] ++ tl = ah ++ a :: b :: tl by simp]
    exact hN _ _ ⟨ys ++ [⟨⟨ah ++ a :: b :: tl⟩⟩], _, _, hw.app ⟨a, b, tl, ha1, hb1, htl2, hts, rfl⟩, by rw [List.map_append]; rfl, rfl⟩
  · rintro δ μ' ⟨ys, o1, o2, hw, rfl, rfl⟩
    walk_at "js"
    exact fin _ ys m6 _ (W2.nms hw hn1 ha6 hsm (by omega)) hm6 (le_on Le.rfl' ((mup_ne hps).trans hpn)) (.inr ⟨p, rfl, hps, mup_same⟩)
theorem fm_filter2 {α : Type} (f : α → Bool) (g : α → D) : ∀ zs : List α, zs.filterMap (fun z => if f z = true then some (g z) else none) = (zs.filter f).map g
  | [] => rfl
  | z :: r => by
    rw [List.filterMap_cons, List.filter_cons]
    have ih := fm_filter2 f g r
    cases h : f z with
    | true =>
      rw [if_pos rfl, if_pos rfl]
      exact congrArg _ ih
    | false => exact ih
/-! ### ends of a line, a web drawn -/
def sp_l_ends : Sp2 := fun ds μ Q _ => ∃ (s : Addr) (m : MO) (ys : List Str) (sh k : Nat), ds = [.ref s, .lst (ys.map D.str), .int sh, .int k] ∧ μ s = some m ∧ IsSt m ∧ ys.Nodup ∧ 2 ≤ ys.length ∧ ys.length ≤ 1000 ∧ sh < 6 ∧ k < 1000 ∧
  ∀ (a b : Str) (m' : MO), a ∈ ys → b ∈ ys → a.cps.toList < b.cps.toList → IsSt m' → Q (.tup [.str a, .str b]) (mup μ s m')
theorem len_l_ends (ds : List D) (μ : Mu) (Q : QE) (ex : Ex2) (h : sp_l_ends ds μ Q ex) : ds.length = 4 := by
  obtain ⟨s, m, ys, sh, k, rfl, _⟩ := h
  rfl
theorem pure_l_ends (ds : List D) (μ : Mu) (Q : QE) (ex : Ex2) (h : sp_l_ends ds μ Q ex) : t_l_ends sp_l_take (ends Q) (startD ["a", "b", "c", "d", "e", "f", "g"] ds) μ := by
  obtain ⟨s, m, ys, sh, k, rfl, hs, hm, hn, h2, hl, hsh, hk, q⟩ := h
  have hsz := sizeLine_eq
  unfold t_l_ends
  show jSeq _ _ (ends Q) [some _, some _, some _, some _, none, none, none] μ
  have e0 : mup μ s m = μ := mup_self hs
  rw [← e0]
  clear e0 hs
  obtain ⟨n, hn'⟩ : ∃ n, n = ys.length := ⟨_, rfl⟩
  have hlen : ((ys.map D.str).length : Int) = n := by rw [List.length_map, hn']
  have p1 : ∀ e : Int, 0 ≤ e % (n : Int) := fun e => Int.emod_nonneg e (by omega)
  have p2 : ∀ e : Int, e % (n : Int) < n := fun e => Int.emod_lt_of_pos e (by omega)
  have p3 : ∀ e : Int, 0 ≤ e % ((n : Int) - 1) := fun e => Int.emod_nonneg e (by omega)
  have p4 : ∀ e : Int, e % ((n : Int) - 1) < n - 1 := fun e => Int.emod_lt_of_pos e (by omega)
  walk_at "js"
  rw [hlen]
  rename_i N1 hN1
  have t1 : ∀ (i j : Int) (m : MO), 0 ≤ i → i < n → 0 ≤ j → j < n → IsSt m → N1 [some (.ref s), some (.lst (ys.map D.str)), some (.int sh), some (.int k), some (.int n), some (.int i), some (.int j)] (mup μ s m) := by
    intro i j m i1 i2 j1 j2 hm
    refine x_nx hN1 ?_
    clear hN1
    walk_at "js"
    rename_i N2 hN2
    have t2 : ∀ (i j : Int) (m : MO), 0 ≤ i → i < n → 0 ≤ j → j < n → IsSt m → N2 [some (.ref s), some (.lst (ys.map D.str)), some (.int sh), some (.int k), some (.int n), some (.int i), some (.int j)] (mup μ s m) := by
      intro i j m i1 i2 j1 j2 hm
      refine x_nx hN2 ?_
      clear hN2
      walk_at "js"
      rename_i N3 hN3
      have t3 : ∀ (i j : Int) (m : MO), 0 ≤ i → i < n → 0 ≤ j → j < n → IsSt m → N3 [some (.ref s), some (.lst (ys.map D.str)), some (.int sh), some (.int k), some (.int n), some (.int i), some (.int j)] (mup μ s m) := by
        intro i j m i1 i2 j1 j2 hm
        refine x_nx hN3 ?_
        clear hN3
        walk_at "js"
        rename_i N4 hN4
        have t4 : ∀ (i j : Int) (m : MO), 0 ≤ i → i < n → 0 ≤ j → j < n → IsSt m → N4 [some (.ref s), some (.lst (ys.map D.str)), some (.int sh), some (.int k), some (.int n), some (.int i), some (.int j)] (mup μ s m) := by
          intro i j m i1 i2 j1 j2 hm
          refine x_nx hN4 ?_
          clear hN4
          walk_at "js"
          rename_i N5 hN5
          have t5 : ∀ (i j : Int) (m : MO), 0 ≤ i → i < n → 0 ≤ j → j < n → i ≠ j → IsSt m → N5 [some (.ref s), some (.lst (ys.map D.str)), some (.int sh), some (.int k), some (.int n), some (.int i), some (.int j)] (mup μ s m) := by
            intro i j m i1 i2 j1 j2 hij hm
            refine x_nx hN5 ?_
            clear hN5
            obtain ⟨i, rfl⟩ : ∃ k : Nat, i = k := ⟨i.toNat, by omega⟩
            obtain ⟨j, rfl⟩ : ∃ k : Nat, j = k := ⟨j.toNat, by omega⟩
            have hi : i < ys.length := by omega
            have hj : j < ys.length := by omega
            have ei : atI (ys.map D.str) (i : Int) = some (.str ys[i]) := atI_some (by rw [List.getElem?_map, List.getElem?_eq_getElem hi]; rfl)
            have ej : atI (ys.map D.str) (j : Int) = some (.str ys[j]) := atI_some (by rw [List.getElem?_map, List.getElem?_eq_getElem hj]; rfl)
            walk_at "js"
            refine x_ixL ei ?_
            walk_at "js"
            refine x_ixL ej ?_
            walk_at "js"
            refine x_minS ?_
            walk_at "js"
            refine x_ixL ei ?_
            walk_at "js"
            refine x_ixL ej ?_
            walk_at "js"
            refine x_maxS ?_
            walk_at "js"
            exact .of (pair_told hn hi hj (fun e => hij (by rw [e])) fun a b ha hb hab => q a b m ha hb hab hm)
          clear hN5
          refine w_ifd (fun he => ?_) (fun hne => t5 i j m i1 i2 j1 j2 hne hm)
          walk_at "js"
          exact t5 _ _ m i1 i2 (p1 _) (p2 _) (succ_mod (by omega) i1 i2) hm
        clear hN4
        refine w_and2 (c1 := (sh : Int) = 5) (c2 := (0 : Int) < k) (fun h => by (walk_at "js"; exact h)) (fun _ _ => ?_) (fun _ => t4 i j m i1 i2 j1 j2 hm)
        walk_at "js"
        exact t4 _ _ m i1 i2 (p1 _) (p2 _) hm
      clear hN3
      have br : ∀ (E : Ends2), E.nx = N3 → jSeq (jAsg (jCall sp_l_take [] noEx (jCons (jVar 0) (jCons (jVar 4) (jNil)))) (kName 5)) (jAsg (jOp mod2 (jCB int1 (jCons (jOp add2 (jOp add2 (jVar 5) (jC (.int 1))) (jCall sp_l_take [] noEx (jCons (jVar 0) (jCons (jVar 4) (jNil))))) (jNil))) (jVar 4)) (kName 6)) E [some (.ref s), some (.lst (ys.map D.str)), some (.int sh), some (.int k), some (.int n), some (.int i), some (.int j)] (mup μ s m) := fun E hE => by
        obtain ⟨en, er, eb, ec⟩ := E
        obtain rfl : en = N3 := hE
        walk_at "js"
        refine ⟨s, n, m, rfl, mup_same, hm, by omega, fun r m1 hm1 a1 a2 a3 => .of ?_⟩
        rw [mup_mup]
        have hr := take_n (n := n) (by omega) a2 a3
        walk_at "js"
        refine ⟨s, n, m1, rfl, mup_same, hm1, by omega, fun r2 m2 hm2 b1 b2 b3 => .of ?_⟩
        rw [mup_mup]
        walk_at "js"
        exact t3 _ _ m2 a1 hr (p1 _) (p2 _) hm2
      refine w_ifd (fun _ => w_true (br _ rfl)) (fun _ => ?_)
      walk_at "js"
      refine w_ifd (fun _ => ?_) (fun _ => w_false (t3 i j m i1 i2 j1 j2 hm))
      walk_at "js"
      exact w_ifd (fun _ => br _ rfl) (fun _ => t3 i j m i1 i2 j1 j2 hm)
    clear hN2
    refine w_ifd (fun _ => ?_) (fun _ => t2 i j m i1 i2 j1 j2 hm)
    walk_at "js"
    refine x_fdiv (j := (n : Int)) (by omega) (Nat.lt_of_le_of_lt (Nat.log2_le_self _) (by rw [Int.natAbs_natCast]; omega)) ?_
    walk_at "js"
    exact t2 _ _ m i1 i2 (p1 _) (p2 _) hm
  clear hN1
  refine w_ifd (fun _ => ?_) (fun _ => t1 _ _ m (p1 _) (p2 _) (p1 _) (p2 _) hm)
  walk_at "js"
  have q3 := p3 k
  have q4 := p4 k
  refine ⟨s, _, m, rfl, mup_same, hm, by omega, fun r m1 hm1 a1 a2 a3 => .of ?_⟩
  rw [mup_mup]
  walk_at "js"
  have hr : r < 1 + (k : Int) % ((n : Int) - 1) := by
    by_cases h : (1 : Int) + (k : Int) % ((n : Int) - 1) < 2
    · have := a2 h; omega
    · exact a3 (by omega)
  exact t1 _ _ m1 a1 (by omega) (by omega) (by omega) hm1
def sp_l_drawn_web : Sp2 := fun ds μ Q _ => ∃ (s : Addr) (m : MO) (n : Nat), ds = [.ref s, .int n] ∧ μ s = some m ∧ IsSt m ∧ 2 ≤ n ∧ n ≤ 32 ∧ ∀ (ys : List Str) (ls : List Ln) (m' : MO), IsSt m' → Hs ys → ys.length ≤ 32 → LnOk ys ls → (ls.length ≤ 14 ∨ ls.length ≤ 3 * n) → Q (.tup [.lst (ys.map D.str), .lst (ls.map lnD)]) (mup μ s m')
theorem len_l_drawn_web (ds : List D) (μ : Mu) (Q : QE) (ex : Ex2) (h : sp_l_drawn_web ds μ Q ex) : ds.length = 2 := by
  obtain ⟨s, m, n, rfl, _⟩ := h
  rfl
theorem pure_l_drawn_web (ds : List D) (μ : Mu) (Q : QE) (ex : Ex2) (h : sp_l_drawn_web ds μ Q ex) : t_l_drawn_web sp_l_take sp_l_words sp_l_ends (ends Q) (startD ["a", "b", "c", "d", "e", "f", "g", "h", "i", "j", "k", "l"] ds) μ := by
  obtain ⟨s, m, n, rfl, hs, hm, hn2, hn, q⟩ := h
  have hsz := sizeLine_eq
  unfold t_l_drawn_web
  show jSeq _ _ (ends Q) [some _, some _, none, none, none, none, none, none, none, none, none, none] μ
  walk_at "js"
  refine ⟨s, 8, m, rfl, hs, hm, by decide, fun r m1 hm1 a1 _ a3 => .of ?_⟩
  have a3 := a3 (by decide)
  obtain ⟨r, rfl⟩ : ∃ k : Nat, r = k := ⟨r.toNat, by omega⟩
  walk_at "js"
  refine ⟨s, 15, m1, rfl, mup_same, hm1, by decide, fun c m2 hm2 b1 _ b3 => .of ?_⟩
  rw [mup_mup]
  have b3 := b3 (by decide)
  obtain ⟨c, rfl⟩ : ∃ k : Nat, c = k := ⟨c.toNat, by omega⟩
  walk_at "js"
  refine ⟨s, 16, m2, rfl, mup_same, hm2, by decide, fun y m3 hm3 c1 _ c3 => .of ?_⟩
  rw [mup_mup]
  have c3 := c3 (by decide)
  obtain ⟨y, rfl⟩ : ∃ k : Nat, y = k := ⟨y.toNat, by omega⟩
  walk_at "js"
  rename_i N1 hN1
  have t1 : ∀ k : Nat, k ≤ 9 → N1 [some (.ref s), some (.int n), some (.int k), some (.int c), some (.int y), none, none, none, none, none, none, none] (mup μ s m3) := by
    intro k hk
    refine x_nx hN1 ?_
    clear hN1
    walk_at "js"
    rename_i N2 hN2
    have t2 : ∀ (k c : Nat) (m : MO), k ≤ 32 → (c ≤ 14 ∨ c ≤ 3 * n) → IsSt m → N2 [some (.ref s), some (.int n), some (.int k), some (.int c), some (.int y), none, none, none, none, none, none, none] (mup μ s m) := by
      intro k c m hk hc hm
      refine x_nx hN2 ?_
      clear hN2
      walk_at "js"
      refine ⟨s, m, k, rfl, mup_same, hm, by omega, fun ys m1 hm1 hy => .f (.of ?_)⟩
      rw [mup_mup]
      walk_at "js"
      refine ⟨s, m1, c, rfl, mup_same, hm1, by omega, fun ns m2 hm2 hns => .f (.of ?_)⟩
      rw [mup_mup]
      walk_at "js"
      refine ⟨s, 4, m2, rfl, mup_same, hm2, by decide, fun r m3 hm3 z1 z2 z3 => .of ?_⟩
      rw [mup_mup]
      clear z1 z2 z3
      walk_at "js"
      rename_i N3 hN3
      have t3 : ∀ (ns : List Str), ns.Nodup → (∀ t ∈ ns, nmS t) → c ≤ ns.length → N3 [some (.ref s), some (.int n), some (.int k), some (.int c), some (.int y), some (.lst (ys.map D.str)), some (.lst (ns.map D.str)), none, none, none, none, none] (mup μ s m3) := by
        intro ns hnd hnm hnl
        refine x_nx hN3 ?_
        clear hN3
        walk_at "js"
        refine ⟨s, 6, m3, rfl, mup_same, hm3, by decide, fun sh m4 hm4 d1 _ d3 => .of ?_⟩
        rw [mup_mup]
        have d3 := d3 (by decide)
        obtain ⟨sh, rfl⟩ : ∃ k : Nat, sh = k := ⟨sh.toNat, by omega⟩
        walk_at "js"
        refine .m fun p hp => ?_
        have hps : p ≠ s := fun e => by rw [e, mup_same] at hp; cases hp
        have hpn : μ p = none := (mup_ne hps).symm.trans hp
        have cm : ∀ (m m' : MO) (xs : List D), mup (mup (mup μ s m) p (.lst xs)) s m' = mup (mup μ s m') p (.lst xs) := fun m m' xs => by rw [mup_comm hps, mup_mup]
        have sm : ∀ (m : MO) (xs : List D), (mup (mup μ s m) p (.lst xs)) s = some m := fun m xs => (mup_ne hps.symm).trans mup_same
        walk_at "js"
        have hci : ∃ j : Nat, (c : Int) * (if decide ((1 : Int) < k) = true then 1 else 0) = j ∧ j ≤ c ∧ (0 < j → 1 < k) := by
          by_cases h : (1 : Int) < k
          · exact ⟨c, by rw [decide_eq_true h]; simp, Nat.le_refl _, fun _ => by omega⟩
          · exact ⟨0, by rw [decide_eq_false h]; simp, Nat.zero_le _, fun h => by omega⟩
        obtain ⟨j, hj, hjc, hjk⟩ := hci
        refine x_mulR ⟨by omega, by split <;> omega⟩ ?_
        rw [hj]
        refine ⟨_, rfl, by unfold rngOk; omega, ?_⟩
        rw [show Int.toNat (j : Int) = j from rfl]
        refine loop_rng (n := j) (fun i δ μ' => ∃ (ls : List Ln) (m : MO) (o9 o10 : Option D), IsSt m ∧ ls.map (·.1) = ns.take i ∧ (∀ z ∈ ls, z.2.1 ∈ ys ∧ z.2.2 ∈ ys ∧ z.2.1.cps.toList < z.2.2.cps.toList) ∧ μ' = mup (mup μ s m) p (.lst (ls.map lnD)) ∧ δ = [some (.ref s), some (.int n), some (.int k), some (.int c), some (.int y), some (.lst (ys.map D.str)), some (.lst (ns.map D.str)), some (.int sh), some (.ref p), o9, o10, none]) (fun _ _ _ _ => trivial) ?_ ?_ _ _ ⟨[], m4, _, _, hm4, rfl, by simp, rfl, rfl⟩
        · rintro i δ μ' hi ⟨ls, m, o9, o10, hm, h1, h2, rfl, rfl⟩ QN hN
          have hin : i < ns.length := by omega
          have hll : ls.length = i := by
            have := congrArg List.length h1
            rw [List.length_map, List.length_take] at this
            omega
          have hk2 := hjk (by omega)
          walk_at "js"
          refine ⟨s, m, ys, sh, i, rfl, sm _ _, hm, hy.2.2, by rw [hy.1]; omega, by rw [hy.1]; omega, by omega, by omega, fun a b m5 ha hb hab hm5 => .of ?_⟩
          rw [cm]
          walk_at "js"
          refine x_ixL (d := .str ns[i]) (atI_some (by rw [List.getElem?_map, List.getElem?_eq_getElem hin]; rfl)) ?_
          walk_at "js"
          refine x_append mup_same (by rw [List.length_map]; omega) ?_
          rw [mup_mup]
          refine hN _ _ ⟨ls ++ [(ns[i], a, b)], m5, _, _, hm5, ?_, fun z hz => ?_, by rw [List.map_append]; rfl, rfl⟩
          · rw [List.map_append, h1, List.take_add_one, List.getElem?_eq_getElem hin]
            rfl
          · rcases List.mem_append.mp hz with hz | hz
            · exact h2 z hz
            · obtain rfl : z = (ns[i], a, b) := by simpa using hz
              exact ⟨ha, hb, hab⟩
        · rintro δ μ' ⟨ls, m, o9, o10, hm, h1, h2, rfl, rfl⟩
          have hll : ls.length ≤ j := by
            have := congrArg List.length h1
            rw [List.length_map, List.length_take] at this
            omega
          have ho : LnOk ys ls := ⟨by rw [h1]; exact hnd.sublist (List.take_sublist ..), by omega, fun z hz => by
            have : z.1 ∈ ns.take j := by rw [← h1]; exact List.mem_map_of_mem hz
            exact hnm _ (List.mem_of_mem_take this), fun z hz => ⟨(h2 z hz).1, (h2 z hz).2.1⟩, fun z hz => (h2 z hz).2.2⟩
          walk_at "js"
          refine .tup mup_same (.keep (.put .nil)) ?_
          rw [mdel_mup ((mup_ne hps).trans hpn)]
          exact q ys ls m hm ⟨hy.2.1, hy.2.2, by rw [hy.1]; omega⟩ (by rw [hy.1]; omega) ho (by omega)
      clear hN3
      refine w_ifd (fun _ => ?_) (fun _ => t3 ns hns.2.2 hns.2.1 (Nat.le_of_eq hns.1.symm))
      walk_at "js"
      refine lc_fmZ ns D.str (fun t => if (!decide (t ∈ ys)) = true then some (.str t) else none) (by have := hns.1; omega) (fun t ht Y Nn k1 k2 => ?_) (.f ?_)
      · walk_at "js"
        refine x_ninA .f all_any_str ?_
        rw [any_isS]
        refine ⟨_, rfl, ?_⟩
        refine w_ifn (fun h => ?_) (fun h => ?_)
        · walk_at "js"
          exact k1 _ (by rw [decide_eq_false h]; rfl)
        · exact k2 (by rw [decide_eq_true h]; rfl)
      rw [fm_filter2 (fun t => !decide (t ∈ ys)) D.str ns]
      have hfl := List.length_filter_le (fun t => !decide (t ∈ ys)) ns
      refine x_addL (by simp only [List.length_map]; have := hns.1; have := hy.1; omega) (.f ?_)
      rw [← List.map_append]
      walk_at "js"
      refine t3 _ (List.nodup_append.mpr ⟨hy.2.2, hns.2.2.sublist (List.filter_sublist ..), fun a ha b hb e => ?_⟩) (fun t ht => ?_) ?_
      · subst e
        have := (List.mem_filter.mp hb).2
        simp [ha] at this
      · rcases List.mem_append.mp ht with ht | ht
        · exact hy.2.1 t ht
        · exact hns.2.1 t (List.mem_filter.mp ht).1
      · have h1 := nodup_sub (l := ns) (m := ys ++ ns.filter fun t => !decide (t ∈ ys)) hns.2.2 fun t ht => by
          by_cases h : t ∈ ys
          · exact List.mem_append_left _ h
          · exact List.mem_append_right _ (List.mem_filter.mpr ⟨ht, by rw [decide_eq_false h]; rfl⟩)
        rw [hns.1] at h1
        exact h1
    clear hN2
    refine w_ifd (fun _ => ?_) (fun _ => t2 k c m3 (by omega) (.inl (by omega)) hm3)
    walk_at "js"
    refine ⟨s, _, m3, rfl, mup_same, hm3, by omega, fun r m4 hm4 d1 d2 d3 => .of ?_⟩
    rw [mup_mup]
    have hr : r < ((3 * n + 1 : Nat) : Int) := by
      have := d3 (by omega)
      omega
    obtain ⟨r, rfl⟩ : ∃ k : Nat, r = k := ⟨r.toNat, by omega⟩
    walk_at "js"
    exact t2 n r m4 hn (.inr (by omega)) hm4
  clear hN1
  refine w_ifd (fun _ => ?_) (fun _ => t1 (2 + r) (by omega))
  walk_at "js"
  exact t1 y (by omega)

/-! ### values laid plain -/
def Pt : Nat → D → Prop
  | 0, d => Atm d
  | n + 1, d => Atm d ∨ ∃ xs, (d = .lst xs ∨ d = .tup xs) ∧ xs.length < 1000 ∧ ∀ x ∈ xs, Pt n x
def plA : D → D
  | .bl b => .tup [.str "bool", .str (if b then "True" else "False")]
  | .int i => .tup [.str "int", .int i]
  | .str x => .tup [.str "str", .str x]
  | _ => .tup [.str "none", .str ""]
def pln : Nat → D → D
  | n + 1, .lst xs => .tup [.str "list", .tup (xs.map (pln n))]
  | n + 1, .tup xs => .tup [.str "tuple", .tup (xs.map (pln n))]
  | _, d => plA d
theorem pln_atm {n : Nat} {d : D} (h : Atm d) : pln n d = plA d := by
  rcases h with ⟨i, rfl⟩ | ⟨i, rfl⟩ | ⟨i, rfl⟩ | rfl <;> cases n <;> rfl
theorem x_strB {b : Bool} {μ : Mu} {Q : QE} (h : Q (.str (if b then "True" else "False")) μ) : str1 [.bl b] μ Q := h
theorem lc_mapP {g : TG2} {te : TE2} {δ0 : Sg} {G : Mu → Prop} {k : List D → Mu → Prop} {μ : Mu} (hG : G μ) (f : D → D) (xs : List D) (hl : xs.length < sizeLine)
    (hs : ∀ x ∈ xs, ∀ Y : D → Mu → Prop, Y (f x) μ → g x δ0 μ fun δ1 μ1 => te δ1 μ1 Y) (hd : k (xs.map f) μ) : jLcl g jYes te δ0 G k xs [] μ := by
  refine lc_inv (fun r acc μ' => μ' = μ ∧ acc ++ r.map f = xs.map f ∧ acc.length + r.length ≤ xs.length ∧ ∀ x ∈ r, x ∈ xs) (fun _ _ _ h => by rw [h.1]; exact hG) ?_ ?_ xs [] μ ⟨rfl, rfl, by simp, fun _ h => h⟩
  · rintro x r acc μ' ⟨rfl, he, hz, hm⟩ N hN
    have h := hs x (hm x (List.mem_cons_self ..)) (fun y μ3 => acc.length < sizeLine ∧ N (acc ++ [y]) μ3) ⟨by simp only [List.length_cons] at hz; omega, hN _ _ ⟨rfl, by rw [← he]; simp, by simp only [List.length_cons, List.length_append, List.length_nil] at hz ⊢; omega, fun z hz' => hm z (List.mem_cons_of_mem _ hz')⟩⟩
    exact h
  · rintro acc μ' ⟨rfl, he, _, _⟩
    have e2 : acc = xs.map f := by simpa using he
    rw [e2]
    exact hd
def spn_l_plain (n : Nat) : Sp2 := fun ds μ Q _ => ∃ x d, ds = [x] ∧ Vw μ x d ∧ Pt n d ∧ Q (pln n d) μ
theorem len_l_plain (n : Nat) (ds : List D) (μ : Mu) (Q : QE) (ex : Ex2) (h : spn_l_plain n ds μ Q ex) : ds.length = 1 := by
  obtain ⟨x, d, rfl, _⟩ := h
  rfl
theorem plain_atm {x : D} {sp : Sp2} {μ : Mu} {Q : QE} (h : Atm x) (q : Q (plA x) μ) : t_l_plain sp (ends Q) [some x, none] μ := by
  unfold t_l_plain
  rcases h with ⟨i, rfl⟩ | ⟨i, rfl⟩ | ⟨i, rfl⟩ | rfl
  · walk_at "js"
    refine x_isN ⟨false, rfl, w_false ?_⟩
    walk_at "js"
    refine w_false ?_
    walk_at "js"
    refine w_true ?_
    walk_at "js"
    exact .of q
  · walk_at "js"
    refine x_isN ⟨false, rfl, w_false ?_⟩
    walk_at "js"
    refine w_true ?_
    walk_at "js"
    refine x_strB ?_
    walk_at "js"
    exact .of q
  · walk_at "js"
    refine x_isN ⟨false, rfl, w_false ?_⟩
    walk_at "js"
    refine w_false ?_
    walk_at "js"
    refine w_false ?_
    walk_at "js"
    refine w_true ?_
    walk_at "js"
    exact .of q
  · walk_at "js"
    refine x_isN ⟨true, rfl, w_true ?_⟩
    walk_at "js"
    exact .of q
theorem pure_l_plain_0 (ds : List D) (μ : Mu) (Q : QE) (ex : Ex2) (h : spn_l_plain 0 ds μ Q ex) : t_l_plain (fun _ _ _ _ => False) (ends Q) (startD ["a", "b"] ds) μ := by
  obtain ⟨x, d, rfl, hv, h, q⟩ := h
  rcases hv with rfl | ⟨a, xs, rfl, hm, rfl⟩
  · exact plain_atm h (by rw [← pln_atm (n := 0) h]; exact q)
  · rcases (show Atm (.lst xs) from h) with ⟨_, e⟩ | ⟨_, e⟩ | ⟨_, e⟩ | e <;> cases e
theorem pure_l_plain_s (n : Nat) (ds : List D) (μ : Mu) (Q : QE) (ex : Ex2) (h : spn_l_plain (n + 1) ds μ Q ex) : t_l_plain (spn_l_plain n) (ends Q) (startD ["a", "b"] ds) μ := by
  obtain ⟨x, d, rfl, hv, h, q⟩ := h
  have hsz := sizeLine_eq
  rcases hv with rfl | ⟨a, xs, rfl, hm, rfl⟩
  · rcases h with h | ⟨xs, rfl | rfl, hl, he⟩
    · exact plain_atm h (by rw [← pln_atm (n := n + 1) h]; exact q)
    · unfold t_l_plain
      show jSeq _ _ (ends Q) [some (.lst xs), none] μ
      walk_at "js"
      refine x_isN ?_
      refine ⟨false, rfl, w_false ?_⟩
      walk_at "js"
      refine w_false ?_
      walk_at "js"
      refine w_false ?_
      walk_at "js"
      refine w_false ?_
      walk_at "js"
      refine w_true ?_
      walk_at "js"
      refine lc_map (pln n) xs (by omega) (fun x hx Y hY => ?_) (.f ?_)
      · show kName 1 x [some (.lst xs), none] _ _
        walk_at "js"
        exact ⟨x, x, rfl, .f, he x hx, .of hY⟩
      · walk_at "js"
        exact .of q
    · unfold t_l_plain
      show jSeq _ _ (ends Q) [some (.tup xs), none] μ
      walk_at "js"
      refine x_isN ?_
      refine ⟨false, rfl, w_false ?_⟩
      walk_at "js"
      refine w_false ?_
      walk_at "js"
      refine w_false ?_
      walk_at "js"
      refine w_false ?_
      walk_at "js"
      refine w_false ?_
      walk_at "js"
      refine w_true ?_
      walk_at "js"
      refine lc_map (pln n) xs (by omega) (fun x hx Y hY => ?_) (.f ?_)
      · show kName 1 x [some (.tup xs), none] _ _
        walk_at "js"
        exact ⟨x, x, rfl, .f, he x hx, .of hY⟩
      · walk_at "js"
        exact .of q
  · rcases h with h | ⟨ys, e | e, hl, he⟩
    · rcases (show Atm (.lst xs) from h) with ⟨_, e⟩ | ⟨_, e⟩ | ⟨_, e⟩ | e <;> cases e
    · cases e
      have hty : tyD μ (.ref a) = some .lst := by simp only [tyD, hm]
      unfold t_l_plain
      show jSeq _ _ (ends Q) [some (.ref a), none] μ
      walk_at "js"
      refine x_isN ?_
      refine ⟨false, rfl, w_false ?_⟩
      walk_at "js"
      refine x_isi rfl hty ?_
      refine ⟨false, rfl, w_false ?_⟩
      walk_at "js"
      refine x_isi rfl hty ?_
      refine ⟨false, rfl, w_false ?_⟩
      walk_at "js"
      refine x_isi rfl hty ?_
      refine ⟨false, rfl, w_false ?_⟩
      walk_at "js"
      refine x_isi rfl hty ?_
      refine ⟨true, rfl, w_true ?_⟩
      walk_at "js"
      refine seq_walkA (.inl (.m hm)) fun G hG => ?_
      refine lc_mapP (hG _ (.inl (.m hm))) (pln n) xs (by omega) (fun x hx Y hY => ?_) (.f ?_)
      · walk_at "js"
        exact ⟨x, x, rfl, .f, he x hx, .of hY⟩
      · walk_at "js"
        exact .of q
    · cases e
theorem plA_lay {n : Nat} {d : D} : Lay (n + 1) (plA d) := by
  unfold plA
  split <;> exact Lay.tup (Lay.two .str (by first | exact .str | exact .int))
theorem pln_lay : ∀ (n : Nat) (d : D), Lay (2 * n + 1) (pln n d)
  | 0, d => by cases d <;> exact plA_lay
  | n + 1, d => by
    have h : ∀ xs : List D, ∀ x ∈ xs.map (pln n), Lay (2 * n + 1) x := fun xs x hx => by
      obtain ⟨y, _, rfl⟩ := List.mem_map.mp hx
      exact pln_lay n y
    cases d <;> first | exact plA_lay | exact Lay.tup (Lay.two .str (Lay.tup (h _)))
theorem ne_self {x : D} {n : Nat} {μ : Mu} {Q : QE} (l : Lay n x) (hn : n ≤ 64) (q : Q (.bl false) μ) : ne2 x x μ Q :=
  x_neV .f .f l l hn hn (by rw [SeqAt.eqv_refl_plain _ (pl_plain _ l.1)]; exact q)
theorem eq_self {x : D} {n : Nat} {μ : Mu} {Q : QE} (l : Lay n x) (hn : n ≤ 64) (q : Q (.bl true) μ) : eq2 x x μ Q :=
  x_eqV .f .f l l hn hn (by rw [SeqAt.eqv_refl_plain _ (pl_plain _ l.1)]; exact q)
def sp_l_plain : Sp2 := spn_l_plain 6
/-! ### lines passed -/
def sp_l_passed : Sp2 := fun ds μ Q _ => ∃ (s : Addr) (m : MO) (ls : List Ln), ds = [.ref s, .lst (ls.map lnD)] ∧ μ s = some m ∧ IsSt m ∧ ls.length ≤ 1000 ∧ ∀ (hd : List (Ln × Bool × Bool)) (m' : MO), IsSt m' → hd.map (·.1) = ls → NewL ((hd.map hndR).map rwD) (mup μ s m') Q
theorem len_l_passed (ds : List D) (μ : Mu) (Q : QE) (ex : Ex2) (h : sp_l_passed ds μ Q ex) : ds.length = 2 := by
  obtain ⟨s, m, ls, rfl, _⟩ := h
  rfl
theorem pure_l_passed (ds : List D) (μ : Mu) (Q : QE) (ex : Ex2) (h : sp_l_passed ds μ Q ex) : t_l_passed sp_l_take (ends Q) (startD ["a", "b", "c", "d", "e"] ds) μ := by
  obtain ⟨s, m, ls, rfl, hs, hm, hl, q⟩ := h
  have hsz := sizeLine_eq
  unfold t_l_passed
  show jSeq _ _ (ends Q) [some _, some _, none, none, none] μ
  rw [← mup_self hs]
  walk_at "js"
  refine .m fun p hp => ?_
  have hps : p ≠ s := fun e => by rw [e, mup_same] at hp; cases hp
  have cm : ∀ (m m' : MO) (xs : List D), mup (mup (mup μ s m) p (.lst xs)) s m' = mup (mup μ s m') p (.lst xs) := fun m m' xs => by rw [mup_comm hps, mup_mup]
  have sm : ∀ (m : MO) (xs : List D), (mup (mup μ s m) p (.lst xs)) s = some m := fun m xs => (mup_ne hps.symm).trans mup_same
  walk_at "js"
  refine loop_Z ls lnD (fun dn δ μ' => ∃ (hd : List (Ln × Bool × Bool)) (m : MO) (o3 o4 : Option D), IsSt m ∧ hd.map (·.1) = dn ∧ μ' = mup (mup μ s m) p (.lst ((hd.map hndR).map rwD)) ∧ δ = [some (.ref s), some (.lst (ls.map lnD)), some (.ref p), o3, o4]) (fun _ _ _ _ => trivial) ?_ ?_ _ _ ⟨[], m, _, _, hm, rfl, rfl, rfl⟩
  · rintro dn z rs δ μ' hls ⟨hd, m, o3, o4, hm, h1, rfl, rfl⟩ QN hN
    have hlen := congrArg List.length hls
    have hdl := congrArg List.length h1
    rw [List.length_append, List.length_cons] at hlen
    rw [List.length_map] at hdl
    show kName 3 (.tup [.str z.1, .str z.2.1, .str z.2.2]) _ _ _
    walk_at "js"
    refine .f ?_
    walk_at "js"
    refine .f ?_
    walk_at "js"
    refine .f ?_
    walk_at "js"
    refine ⟨s, 4, m, rfl, sm _ _, hm, by decide, fun r m1 hm1 a1 _ a3 => .of ?_⟩
    rw [cm]
    have a3 := a3 (by decide)
    obtain ⟨r, rfl⟩ : ∃ k : Nat, r = k := ⟨r.toNat, by omega⟩
    have go : ∀ (b c : Bool), atI [D.tup [.str z.1, .str z.2.1, .str z.2.2], .tup [.str z.1, .str z.2.2, .str z.2.1], .lst [.str z.1, .str z.2.1, .str z.2.2], .lst [.str z.1, .str z.2.2, .str z.2.1]] (r : Int) = some (rwD (hndR (z, b, c))) →
        ix2 (.lst [D.tup [.str z.1, .str z.2.1, .str z.2.2], .tup [.str z.1, .str z.2.2, .str z.2.1], .lst [.str z.1, .str z.2.1, .str z.2.2], .lst [.str z.1, .str z.2.2, .str z.2.1]]) (.int r) (mup (mup μ s m1) p (.lst ((hd.map hndR).map rwD))) fun x μ1 => jNil [some (.ref s), some (.lst (ls.map lnD)), some (.ref p), some (.tup [.str z.1, .str z.2.1, .str z.2.2]), some (.tup [.str z.1, .str z.2.2, .str z.2.1])] μ1 fun xs μ2 => append1 (.ref p) (x :: xs) μ2 fun _ μ3 => QN [some (.ref s), some (.lst (ls.map lnD)), some (.ref p), some (.tup [.str z.1, .str z.2.1, .str z.2.2]), some (.tup [.str z.1, .str z.2.2, .str z.2.1])] μ3 := fun b c e => by
      refine x_ixL e ?_
      walk_at "js"
      refine x_append mup_same (by rw [List.length_map, List.length_map]; omega) ?_
      rw [mup_mup]
      exact hN _ _ ⟨hd ++ [(z, b, c)], m1, _, _, hm1, by rw [List.map_append, h1]; rfl, by rw [List.map_append, List.map_append]; rfl, rfl⟩
    match r, a3 with
    | 0, _ => exact go false true rfl
    | 1, _ => exact go true true rfl
    | 2, _ => exact go false false rfl
    | 3, _ => exact go true false rfl
  · rintro δ μ' ⟨hd, m, o3, o4, hm, h1, rfl, rfl⟩
    rw [mup_self hs] at hp
    walk_at "js"
    exact newL_at ((mup_ne hps).trans hp) (q hd m hm h1)

/-! ### the part of a house; two houses that are joined -/
theorem prt_one {ys us : List Str} {zs : List Ln} {h : Str} {cs : List Ct} (hn : ys.Nodup) (hs : ys.Pairwise leS) (T : Tl ys zs h cs) (h1 : us.Perm (cs.map (·.1))) (h2 : us.Pairwise leS) : us = prt ys zs h :=
  (h1.trans (prt_perm hn T).symm).eq_of_pairwise (fun _ _ _ _ a b => leS_anti a b) h2 (prt_srt hs)

/-! ### the parts, found anew -/
def kT (t : Str) : Key × D := (ks t, .bl true)
theorem kT_keys (ss : List Str) : (ss.map kT).map (·.1) = ss.map ks := by
  rw [List.map_map]
  rfl
theorem kT_put (ss : List Str) (t : Str) : putKD (ss.map kT) (ks t) (.bl true) = (if t ∈ ss then ss else ss ++ [t]).map kT := by
  unfold putKD
  by_cases h : t ∈ ss
  · rw [if_pos (List.any_eq_true.mpr ⟨kT t, List.mem_map_of_mem h, decide_eq_true rfl⟩), if_pos h, List.map_map]
    refine List.map_congr_left fun s _ => ?_
    show (if (kT s).1 = ks t then ((kT s).1, D.bl true) else kT s) = kT s
    split
    · rfl
    · rfl
  · have hn : ¬ ((ss.map kT).any fun kv => decide (kv.1 = ks t)) = true := fun h2 => by
      obtain ⟨kv, h3, h4⟩ := List.any_eq_true.mp h2
      obtain ⟨s, h5, rfl⟩ := List.mem_map.mp h3
      have h4 : ks s = ks t := of_decide_eq_true h4
      unfold ks at h4
      injection h4 with h4
      exact h (h4 ▸ h5)
    rw [if_neg hn, if_neg h, List.map_append]
    rfl
/-- lists of their own at the addresses as -/
structure Prs (μ ν : Mu) (as : List Addr) (ps : List (List Str)) : Prop where
  le : Le μ ν
  nd : as.Nodup
  fr : ∀ a ∈ as, μ a = none
  at_ : as.map ν = ps.map fun p => some (MO.lst (p.map D.str))
theorem Prs.nil {μ : Mu} : Prs μ μ [] [] := ⟨Le.rfl', by simp, by simp, rfl⟩
theorem Prs.some {μ ν : Mu} {as : List Addr} {ps : List (List Str)} (P : Prs μ ν as ps) {a : Addr} (h : a ∈ as) : ∃ o, ν a = some o := by
  have k : ν a ∈ as.map ν := List.mem_map_of_mem h
  rw [P.at_] at k
  obtain ⟨p, _, k⟩ := List.mem_map.mp k
  exact ⟨_, k.symm⟩
theorem Prs.len {μ ν : Mu} {as : List Addr} {ps : List (List Str)} (P : Prs μ ν as ps) : as.length = ps.length := by
  have := congrArg List.length P.at_
  rwa [List.length_map, List.length_map] at this
theorem Prs.snoc {μ ν : Mu} {as : List Addr} {ps : List (List Str)} (P : Prs μ ν as ps) {p : Addr} (hp : ν p = none) (x : List Str) : Prs μ (mup ν p (.lst (x.map D.str))) (as ++ [p]) (ps ++ [x]) := by
  have hna : p ∉ as := fun h => by
    obtain ⟨o, e⟩ := P.some h
    rw [hp] at e
    cases e
  have hm : μ p = none := by
    cases e : μ p with
    | none => rfl
    | some o =>
      rw [P.le p o e] at hp
      cases hp
  refine ⟨Le.trans P.le (le_fresh hp), List.nodup_append.mpr ⟨P.nd, by simp, fun a ha b hb e => ?_⟩, fun a ha => ?_, ?_⟩
  · obtain rfl : b = p := by simpa using hb
    exact hna (e ▸ ha)
  · rcases List.mem_append.mp ha with h | h
    · exact P.fr a h
    · obtain rfl : a = p := by simpa using h
      exact hm
  · rw [List.map_append, List.map_append, ← P.at_]
    congr 1
    · refine List.map_congr_left fun a ha => mup_ne fun e => ?_
      subst e
      exact hna ha
    · show [mup ν p _ p] = _
      rw [mup_same]
      rfl
def sp_find_parts : Sp2 := fun ds μ Q _ => ∃ (ys : List Str) (ps zs : List Ln), ds = [.ins "Web" (webF ys ps zs)] ∧ WebOk ys ps zs ∧ ∀ (as : List Addr) (ν : Mu), Prs μ ν as (pts ys zs) → Q (.lst (as.map D.ref)) ν
theorem len_find_parts (ds : List D) (μ : Mu) (Q : QE) (ex : Ex2) (h : sp_find_parts ds μ Q ex) : ds.length = 1 := by
  obtain ⟨ys, ps, zs, rfl, _⟩ := h
  rfl
section
open Classical
noncomputable def dnP (ys : List Str) (zs : List Ln) (dn : List Str) : List (List Str) := (dn.filter fun h => decide (Lst ys zs h)).map (prt ys zs)
theorem dnP_snoc {ys : List Str} {zs : List Ln} {dn : List Str} {x : Str} : dnP ys zs (dn ++ [x]) = dnP ys zs dn ++ if Lst ys zs x then [prt ys zs x] else [] := by
  unfold dnP
  rw [List.filter_append, List.map_append]
  congr 1
  by_cases h : Lst ys zs x
  · rw [if_pos h, List.filter_cons, decide_eq_true h, if_pos rfl]
    rfl
  · rw [if_neg h, List.filter_cons, decide_eq_false h, if_neg Bool.false_ne_true]
    rfl
end
theorem dnP_len {ys : List Str} {zs : List Ln} {dn : List Str} : (dnP ys zs dn).length ≤ dn.length := by
  unfold dnP
  rw [List.length_map]
  exact List.length_filter_le ..
theorem less_non {zs : List Ln} : less zs .non = zs := by
  unfold less
  exact List.filter_eq_self.mpr fun z _ => rfl
theorem pure_find_parts (ds : List D) (μ : Mu) (Q : QE) (ex : Ex2) (h : sp_find_parts ds μ Q ex) : t_find_parts sp_lines_by_house_plain sp_Web_houses sp_step_counts (ends Q) (startD ["a", "b", "c", "d", "e", "f", "g"] ds) μ := by
  obtain ⟨ys, ps, zs, rfl, hw, q⟩ := h
  have hsz := sizeLine_eq
  have hlz : zs.length ≤ 96 := by rw [hw.perm.length_eq]; exact hw.ok.len
  have hzz := lnok_near (hw.ok.perm hw.perm)
  have hyl := hw.len
  have hz2 : ∀ z ∈ zs, z.2.1 ≠ z.2.2 := fun z hz => (hzz z hz).2.2
  have hin : ∀ a b, Adj zs a b → b ∈ ys := adj_in hzz
  unfold t_find_parts
  show jSeq _ _ (ends Q) [some _, none, none, none, none, none, none] μ
  walk_at "js"
  refine ⟨ys, ps, zs, .non, rfl, vl_noS (ns := []) (.inl rfl), hw.nd, by omega, by omega, hzz, .of ?_⟩
  rw [less_non]
  walk_at "js"
  refine .m fun p1 hp1 => ?_
  walk_at "js"
  refine .m fun p2 hp2 => ?_
  have h12 : p1 ≠ p2 := fun e => by rw [← e, mup_same] at hp2; cases hp2
  have hp20 : μ p2 = none := by rw [mup_ne h12.symm] at hp2; exact hp2
  have s1 : ∀ (ν : Mu) (k : List (Key × D)) (xs : List D), (mup (mup ν p1 (.dct k)) p2 (.lst xs)) p1 = some (.dct k) := fun ν k xs => (mup_ne h12).trans mup_same
  have s2 : ∀ (ν : Mu) (k : List (Key × D)) (xs : List D), (mup (mup ν p1 (.dct k)) p2 (.lst xs)) p2 = some (.lst xs) := fun ν k xs => mup_same
  have e1 : ∀ (ν : Mu) (k k' : List (Key × D)) (xs : List D), mup (mup (mup ν p1 (.dct k)) p2 (.lst xs)) p1 (.dct k') = mup (mup ν p1 (.dct k')) p2 (.lst xs) := fun ν k k' xs => by rw [mup_comm h12.symm, mup_mup]
  have e3 : ∀ (ν : Mu) (k : List (Key × D)) (xs : List D) (p : Addr) (o : MO), p ≠ p1 → p ≠ p2 → mup (mup (mup ν p1 (.dct k)) p2 (.lst xs)) p o = mup (mup (mup ν p o) p1 (.dct k)) p2 (.lst xs) := fun ν k xs p o n1 n2 => by
    rw [mup_comm n2.symm, mup_comm (Ne.symm n1)]
  walk_at "js"
  refine ⟨⟨_, .inl rfl⟩, ys, ps, zs, rfl, .of ?_⟩
  walk_at "js"
  refine loop_inv (fun r δ μ' => ∃ (dn rs ss : List Str) (as : List Addr) (ν : Mu) (o4 o5 o6 : Option D), ys = dn ++ rs ∧ r = rs.map D.str ∧ Prs μ ν as (dnP ys zs dn) ∧ ν p1 = none ∧ ν p2 = none ∧ ss.Nodup ∧ (∀ t, t ∈ ss ↔ ∃ h ∈ dn, Jn zs h t) ∧ μ' = mup (mup ν p1 (.dct (ss.map kT))) p2 (.lst (as.map D.ref)) ∧ δ = [some (.ins "Web" (webF ys ps zs)), some (.dct (adjD ys zs)), some (.ref p1), some (.ref p2), o4, o5, o6]) (fun _ _ _ _ => trivial) ?_ ?_ _ _ _
    ⟨[], ys, [], [], μ, none, none, none, rfl, rfl, .nil, hp1, hp20, by simp, by simp, rfl, rfl⟩
  · rintro x r δ μ' ⟨dn, rs, ss, as, ν, o4, o5, o6, h1, h2, P, n1, n2, hsn, hss, rfl, rfl⟩ QN hN
    cases rs with
    | nil => cases h2
    | cons y rs =>
    rw [List.map_cons] at h2
    injection h2 with e4 e5
    subst e4 e5
    have hy : y ∈ ys := by rw [h1]; simp
    have hle := least_iff hz2 hw.srt hw.nd h1
    have hsy : ∀ t ∈ ss, t ∈ ys := fun t ht => by
      obtain ⟨h, k1, k2⟩ := (hss t).mp ht
      exact k2.inn hin (by rw [h1]; exact List.mem_append_left _ k1)
    walk_at "js"
    refine x_ninK (.m (s1 _ _ _)) (k := ks y) rfl ?_
    rw [kys_val (kT_keys ss)]
    refine ⟨_, rfl, w_ifn (fun hny => ?_) (fun hyin => ?_)⟩
    · have hL : Lst ys zs y := hle.mpr fun h => hny ((hss y).mpr h)
      walk_at "js"
      refine ⟨ys, zs, y, rfl, hw.nd, by omega, by omega, hy, hin, fun bs B => .of ?_⟩
      walk_at "js"
      refine x_sortedD .f (show (bs.map kC).map (·.1) = (bs.map (·.1)).map Sum.inr from kC_keys bs) fun us h3 h4 => ?_
      rw [prt_one hw.nd hw.srt B.tl h3 h4]
      refine .m fun p hp => ?_
      have np1 : p ≠ p1 := fun e => by rw [e, s1] at hp; cases hp
      have np2 : p ≠ p2 := fun e => by rw [e, s2] at hp; cases hp
      have hp0 : ν p = none := by rw [mup_ne np2, mup_ne np1] at hp; exact hp
      rw [e3 _ _ _ _ _ np1 np2]
      have P2 := P.snoc hp0 (prt ys zs y)
      have m1 : (mup ν p (.lst ((prt ys zs y).map D.str))) p1 = none := (mup_ne (Ne.symm np1)).trans n1
      have m2 : (mup ν p (.lst ((prt ys zs y).map D.str))) p2 = none := (mup_ne (Ne.symm np2)).trans n2
      have sp : ∀ (k : List (Key × D)) (xs : List D), (mup (mup (mup ν p (.lst ((prt ys zs y).map D.str))) p1 (.dct k)) p2 (.lst xs)) p = some (.lst ((prt ys zs y).map D.str)) := fun k xs => by
        rw [mup_ne np2, mup_ne np1, mup_same]
      generalize mup ν p (.lst ((prt ys zs y).map D.str)) = ν2 at *
      walk_at "js"
      refine ⟨(prt ys zs y).map D.str, sp _ _, ?_⟩
      refine loop_inv (fun r δ μ' => ∃ (d2 r2 s2 : List Str) (o6 : Option D), prt ys zs y = d2 ++ r2 ∧ r = r2.map D.str ∧ s2.Nodup ∧ (∀ t, t ∈ s2 ↔ t ∈ ss ∨ t ∈ d2) ∧ μ' = mup (mup ν2 p1 (.dct (s2.map kT))) p2 (.lst (as.map D.ref)) ∧ δ = [some (.ins "Web" (webF ys ps zs)), some (.dct (adjD ys zs)), some (.ref p1), some (.ref p2), some (.str y), some (.ref p), o6]) (fun r δ μ' ⟨_, _, _, _, _, _, _, _, e, _⟩ => by rw [e]; exact sp _ _) ?_ ?_ _ _ _
        ⟨[], _, ss, _, rfl, rfl, hsn, by simp, rfl, rfl⟩
      · rintro x r δ μ' ⟨d2, r2, sk, o6, g1, g2, g3, g4, rfl, rfl⟩ QN hN
        cases r2 with
        | nil => cases g2
        | cons t r2 =>
        rw [List.map_cons] at g2
        injection g2 with e4 e5
        subst e4 e5
        have hsl : sk.length ≤ ys.length := by
          refine nodup_sub g3 fun t ht => ?_
          rcases (g4 t).mp ht with h | h
          · exact hsy t h
          · exact (mem_prt.mp (by rw [g1]; exact List.mem_append_left _ h)).1
        walk_at "js"
        refine x_setD (s1 _ _ _) (kk := ks t) rfl (by rw [List.length_map]; omega) ?_
        rw [e1, kT_put]
        refine hN _ _ ⟨d2 ++ [t], r2, _, _, by rw [g1]; simp, rfl, ?_, fun u => ?_, rfl, rfl⟩
        · by_cases h : t ∈ sk
          · rw [if_pos h]
            exact g3
          · rw [if_neg h]
            exact List.nodup_append.mpr ⟨g3, by simp, fun a ha b hb e => by
              obtain rfl : b = t := by simpa using hb
              exact h (e ▸ ha)⟩
        · by_cases h : t ∈ sk
          · rw [if_pos h, g4 u, List.mem_append, List.mem_singleton]
            constructor
            · rintro (k | k)
              · exact .inl k
              · exact .inr (.inl k)
            · rintro (k | k | rfl)
              · exact .inl k
              · exact .inr k
              · exact (g4 _).mp h
          · rw [if_neg h, List.mem_append, List.mem_append, List.mem_singleton, g4 u, or_assoc]
      · rintro δ μ' ⟨d2, r2, sk, o6, g1, g2, g3, g4, rfl, rfl⟩
        cases r2 with
        | cons t r2 => cases g2
        | nil =>
        rw [List.append_nil] at g1
        walk_at "js"
        refine x_append (s2 _ _ _) (by
          have k1 := P.len
          have k2 := dnP_len (ys := ys) (zs := zs) (dn := dn)
          have k3 := congrArg List.length h1
          rw [List.length_append] at k3
          rw [List.length_map]
          omega) ?_
        rw [mup_mup]
        walk_at "js"
        refine hN _ _ ⟨dn ++ [y], rs, sk, as ++ [p], ν2, _, _, _, by rw [h1]; simp, rfl, ?_, m1, m2, g3, fun t => ?_, by rw [List.map_append]; rfl, rfl⟩
        · rw [dnP_snoc, if_pos hL]
          exact P2
        · rw [g4, hss, ← g1, mem_prt]
          constructor
          · rintro (⟨h, k1, k2⟩ | ⟨k1, k2⟩)
            · exact ⟨h, List.mem_append_left _ k1, k2⟩
            · exact ⟨y, by simp, k2⟩
          · rintro ⟨h, k1, k2⟩
            rcases List.mem_append.mp k1 with k1 | k1
            · exact .inl ⟨h, k1, k2⟩
            · obtain rfl : h = y := by simpa using k1
              exact .inr ⟨k2.inn hin hy, k2⟩
    · have hL : ¬ Lst ys zs y := fun h => hle.mp h ((hss y).mp hyin)
      walk_at "js"
      refine hN _ _ ⟨dn ++ [y], rs, ss, as, ν, _, _, _, by rw [h1]; simp, rfl, ?_, n1, n2, hsn, fun t => ?_, rfl, rfl⟩
      · rw [dnP_snoc, if_neg hL, List.append_nil]
        exact P
      · rw [hss]
        constructor
        · rintro ⟨h, k1, k2⟩
          exact ⟨h, List.mem_append_left _ k1, k2⟩
        · rintro ⟨h, k1, k2⟩
          rcases List.mem_append.mp k1 with k1 | k1
          · exact ⟨h, k1, k2⟩
          · obtain rfl : h = y := by simpa using k1
            obtain ⟨h', k3, k4⟩ := (hss h).mp hyin
            exact ⟨h', k3, k4.trans k2⟩
  · rintro δ μ' ⟨dn, rs, ss, as, ν, o4, o5, o6, h1, h2, P, n1, n2, hsn, hss, rfl, rfl⟩
    cases rs with
    | cons y rs => cases h2
    | nil =>
    rw [List.append_nil] at h1
    subst h1
    walk_at "js"
    refine .join (.lst (s2 _ _ _) (.drop (μ' := ν) (fun b o hb => ?_) (q as ν P)))
    have nb1 : b ≠ p1 := fun e => by rw [e, n1] at hb; cases hb
    have nb2 : b ≠ p2 := fun e => by rw [e, n2] at hb; cases hb
    unfold mdel
    rw [if_neg nb2, mup_ne nb2, mup_ne nb1]
    exact hb

/-! ### the parts by marks -/
def kM (f : Str → Str) (h : Str) : Key × D := (ks h, .str (f h))
theorem kM_keys (f : Str → Str) (hs : List Str) : (hs.map (kM f)).map (·.1) = hs.map ks := by
  rw [List.map_map]
  rfl
theorem kM_val (f : Str → Str) : ∀ {hs : List Str} {a : Str}, a ∈ hs → valD (hs.map (kM f)) (ks a) = some (.str (f a))
  | h :: r, a, ha => by
    rw [List.map_cons]
    by_cases e : h = a
    · subst e
      exact valD_pos rfl
    · rw [valD_neg (fun e2 => e (by unfold kM ks at e2; injection e2))]
      rcases List.mem_cons.mp ha with rfl | ha
      · exact absurd rfl e
      · exact kM_val f ha
theorem kM_congr {f g : Str → Str} {hs : List Str} (h : ∀ t ∈ hs, f t = g t) : hs.map (kM f) = hs.map (kM g) := List.map_congr_left fun t ht => by
  unfold kM
  rw [h t ht]
theorem kM_put {f : Str → Str} {hs : List Str} {x v : Str} (hx : x ∈ hs) : putKD (hs.map (kM f)) (ks x) (.str v) = hs.map (kM fun h => if h = x then v else f h) := by
  unfold putKD
  rw [if_pos (List.any_eq_true.mpr ⟨kM f x, List.mem_map_of_mem hx, decide_eq_true rfl⟩), List.map_map]
  refine List.map_congr_left fun h _ => ?_
  show (if (kM f h).1 = ks x then ((kM f h).1, D.str v) else kM f h) = kM _ h
  unfold kM
  by_cases e : h = x
  · subst e
    rw [if_pos rfl]
    simp
  · rw [if_neg (fun e2 => e (by unfold ks at e2; injection e2))]
    simp [e]
theorem kM_new {f : Str → Str} {hs : List Str} {x : Str} (hx : x ∉ hs) : putKD (hs.map (kM f)) (ks x) (.str (f x)) = (hs ++ [x]).map (kM f) := by
  have hn : valD (hs.map (kM f)) (ks x) = none := by
    have := kys_val (kM_keys f hs) x
    rw [decide_eq_false hx] at this
    simpa using this
  rw [keys_put_new hn, List.map_append]
  rfl
/-- the marks stand for the parts -/
structure Mk (hs : List Str) (dn : List Ln) (f : Str → Str) : Prop where
  inn : ∀ h ∈ hs, f h ∈ hs
  le : ∀ h ∈ hs, ¬ h.cps.toList < (f h).cps.toList
  iff : ∀ h ∈ hs, ∀ t ∈ hs, f h = f t ↔ Jn dn h t
  self : ∀ h ∈ hs, Jn dn h (f h)
theorem Mk.start {hs : List Str} : Mk hs [] id := ⟨fun _ h => h, fun _ _ => List.lt_irrefl _, fun _ _ _ _ => Jn.nil.symm, fun _ _ => .refl⟩
def mn (a b : Str) : Str := if b.cps.toList < a.cps.toList then b else a
theorem mn_or (a b : Str) : mn a b = a ∨ mn a b = b := by
  unfold mn
  split
  · exact .inr rfl
  · exact .inl rfl
theorem mn_le (a b : Str) : ¬ a.cps.toList < (mn a b).cps.toList ∧ ¬ b.cps.toList < (mn a b).cps.toList := by
  unfold mn
  split
  · rename_i h
    exact ⟨fun h2 => List.lt_irrefl _ (List.lt_trans h h2), List.lt_irrefl _⟩
  · rename_i h
    exact ⟨List.lt_irrefl _, h⟩
def mrg (f : Str → Str) (a b : Str) (h : Str) : Str := if f h = f a ∨ f h = f b then mn (f a) (f b) else f h
theorem Mk.step {hs : List Str} {dn : List Ln} {f : Str → Str} (M : Mk hs dn f) {z : Ln} (hz : ∀ y ∈ dn ++ [z], y.2.1 ≠ y.2.2) (ha : z.2.1 ∈ hs) (hb : z.2.2 ∈ hs) : Mk hs (dn ++ [z]) (mrg f z.2.1 z.2.2) := by
  have hz0 : ∀ y ∈ dn, y.2.1 ≠ y.2.2 := fun y hy => hz y (List.mem_append_left _ hy)
  obtain ⟨n, a, b⟩ := z
  have ha : a ∈ hs := ha
  have hb : b ∈ hs := hb
  show Mk hs (dn ++ [(n, a, b)]) (mrg f a b)
  have hmn := mn_or (f a) (f b)
  have hml := mn_le (f a) (f b)
  refine ⟨fun h hh => ?_, fun h hh => ?_, fun h hh t ht => ?_, fun h hh => ?_⟩
  · unfold mrg
    split
    · rcases hmn with e | e
      · rw [e]; exact M.inn a ha
      · rw [e]; exact M.inn b hb
    · exact M.inn h hh
  · unfold mrg
    have hl := M.le h hh
    split
    · rename_i h1
      intro h2
      rcases h1 with h1 | h1
      · rw [h1] at hl
        rcases Decidable.em (mn (f a) (f b) = f a) with e | e
        · rw [e] at h2
          exact hl h2
        · exact hl (List.lt_trans h2 (str_ne_lt e hml.1))
      · rw [h1] at hl
        rcases Decidable.em (mn (f a) (f b) = f b) with e | e
        · rw [e] at h2
          exact hl h2
        · exact hl (List.lt_trans h2 (str_ne_lt e hml.2))
    · exact hl
  · rw [Jn.snoc hz]
    show mrg f a b h = mrg f a b t ↔ Jn dn h t ∨ (Jn dn h a ∧ Jn dn b t) ∨ (Jn dn h b ∧ Jn dn a t)
    rw [← M.iff h hh t ht, ← M.iff h hh a ha, ← M.iff h hh b hb, ← M.iff b hb t ht, ← M.iff a ha t ht]
    unfold mrg
    by_cases h1 : f h = f a ∨ f h = f b
    · by_cases h2 : f t = f a ∨ f t = f b
      · rw [if_pos h1, if_pos h2]
        refine ⟨fun _ => ?_, fun _ => rfl⟩
        rcases h1 with h1 | h1 <;> rcases h2 with h2 | h2
        · exact .inl (h1.trans h2.symm)
        · exact .inr (.inl ⟨h1, h2.symm⟩)
        · exact .inr (.inr ⟨h1, h2.symm⟩)
        · exact .inl (h1.trans h2.symm)
      · rw [if_pos h1, if_neg h2]
        constructor
        · intro h3
          rw [← h3] at h2
          exact absurd hmn h2
        · rintro (h3 | ⟨_, h3⟩ | ⟨_, h3⟩)
          · rw [h3] at h1
            exact absurd h1 h2
          · exact absurd (.inr h3.symm) h2
          · exact absurd (.inl h3.symm) h2
    · by_cases h2 : f t = f a ∨ f t = f b
      · rw [if_neg h1, if_pos h2]
        constructor
        · intro h3
          rw [h3] at h1
          exact absurd hmn h1
        · rintro (h3 | ⟨h3, _⟩ | ⟨h3, _⟩)
          · rw [h3] at h1
            exact absurd h2 h1
          · exact absurd (.inl h3) h1
          · exact absurd (.inr h3) h1
      · rw [if_neg h1, if_neg h2]
        constructor
        · exact .inl
        · rintro (h3 | ⟨h3, _⟩ | ⟨h3, _⟩)
          · exact h3
          · exact absurd (.inl h3) h1
          · exact absurd (.inr h3) h1
  · have hj : Jn (dn ++ [(n, a, b)]) a b := .adj ((adj_snoc hz).mpr (.inr (.inl ⟨rfl, rfl⟩)))
    have sa := (M.self a ha).mono hz
    have sb := (M.self b hb).mono hz
    have sh := (M.self h hh).mono hz
    unfold mrg
    split
    · rename_i h1
      have k : Jn (dn ++ [(n, a, b)]) h a := by
        rcases h1 with h1 | h1
        · rw [h1] at sh
          exact sh.trans (sa.symm hz)
        · rw [h1] at sh
          exact (sh.trans (sb.symm hz)).trans (hj.symm hz)
      rcases hmn with e | e
      · rw [e]; exact k.trans sa
      · rw [e]; exact (k.trans hj).trans sb
    · exact sh
theorem Mk.same {hs : List Str} {dn : List Ln} {f : Str → Str} {a b : Str} (e : f a = f b) (h : Str) : mrg f a b h = f h := by
  unfold mrg mn
  rw [e, ite_self]
  by_cases h1 : f h = f b
  · rw [if_pos (.inl h1), h1]
  · rw [if_neg (fun h2 => h2.elim h1 h1)]
theorem Mk.congr {hs : List Str} {dn : List Ln} {f g : Str → Str} (M : Mk hs dn f) (e : ∀ h ∈ hs, f h = g h) : Mk hs dn g :=
  ⟨fun h hh => e h hh ▸ M.inn h hh, fun h hh => e h hh ▸ M.le h hh, fun h hh t ht => by rw [← e h hh, ← e t ht]; exact M.iff h hh t ht, fun h hh => e h hh ▸ M.self h hh⟩
theorem Mk.least {ys hs : List Str} {dn : List Ln} {f : Str → Str} (M : Mk hs dn f) (hp : ys.Perm hs) {h : Str} (hh : h ∈ hs) : f h = h ↔ Lst ys dn h := by
  constructor
  · intro e t ht hj hlt
    have ht := hp.subset ht
    have k := M.le t ht
    rw [← (M.iff h hh t ht).mpr hj, e] at k
    exact k hlt
  · intro hL
    have k1 := hL (f h) (hp.symm.subset (M.inn h hh)) (M.self h hh)
    have k2 := M.le h hh
    exact leS_anti (List.not_lt.mp k2) (List.not_lt.mp k1)
theorem Mk.part {ys hs : List Str} {dn : List Ln} {f : Str → Str} (M : Mk hs dn f) (hp : ys.Perm hs) {h : Str} (hh : h ∈ hs) (e : f h = h) : ys.filterMap (fun t => if f t = h then some (D.str t) else none) = (prt ys dn h).map D.str := by
  have k : ∀ t ∈ ys, f t = h ↔ Jn dn h t := fun t ht => by
    have i := M.iff h hh t (hp.subset ht)
    rw [e] at i
    rw [← i]
    exact eq_comm
  classical
  unfold prt
  clear hp
  induction ys with
  | nil => rfl
  | cons y r ih =>
    have ih := ih fun t ht => k t (List.mem_cons_of_mem _ ht)
    have ky := k y (List.mem_cons_self ..)
    rw [List.filterMap_cons, List.filter_cons]
    by_cases h1 : f y = h
    · rw [if_pos h1, decide_eq_true (ky.mp h1), if_pos rfl]
      exact congrArg _ ih
    · rw [if_neg h1, decide_eq_false (fun h2 => h1 (ky.mpr h2)), if_neg Bool.false_ne_true]
      exact ih
def sp_l_parts : Sp2 := fun ds μ Q _ => ∃ (ys hs : List Str) (ls : List Ln), ds = [.lst (hs.map D.str), .lst (ls.map lnD)] ∧ ys.Perm hs ∧ ys.Pairwise leS ∧ hs.Nodup ∧ hs.length < 64 ∧ ls.length ≤ 1000 ∧ (∀ z ∈ ls, z.2.1 ∈ hs ∧ z.2.2 ∈ hs ∧ z.2.1 ≠ z.2.2) ∧ Q (.lst ((pts ys ls).map fun p => .lst (p.map D.str))) μ
theorem len_l_parts (ds : List D) (μ : Mu) (Q : QE) (ex : Ex2) (h : sp_l_parts ds μ Q ex) : ds.length = 2 := by
  obtain ⟨ys, hs, ls, rfl, _⟩ := h
  rfl
theorem pure_l_parts (ds : List D) (μ : Mu) (Q : QE) (ex : Ex2) (h : sp_l_parts ds μ Q ex) : t_l_parts (ends Q) (startD ["a", "b", "c", "d", "e", "f", "g", "h", "i"] ds) μ := by
  obtain ⟨ys, hs, ls, rfl, hp, hs1, hn, hl, hll, hz, q⟩ := h
  have hsz := sizeLine_eq
  unfold t_l_parts
  show jSeq _ _ (ends Q) [some _, some _, none, none, none, none, none, none, none] μ
  walk_at "js"
  refine .m fun p hp1 => ?_
  walk_at "js"
  have s1 : ∀ k : List (Key × D), (mup μ p (.dct k)) p = some (.dct k) := fun _ => mup_same
  refine loop_inv (fun r δ μ' => ∃ (dn rs : List Str) (o3 : Option D), hs = dn ++ rs ∧ r = rs.map D.str ∧ μ' = mup μ p (.dct (dn.map (kM id))) ∧ δ = [some (.lst (hs.map D.str)), some (.lst (ls.map lnD)), some (.ref p), o3, none, none, none, none, none]) (fun _ _ _ _ => trivial) ?_ ?_ _ _ _ ⟨[], hs, none, rfl, rfl, rfl, rfl⟩
  · rintro x r δ μ' ⟨dn, rs, o3, h1, h2, rfl, rfl⟩ QN hN
    cases rs with
    | nil => cases h2
    | cons y rs =>
    rw [List.map_cons] at h2
    injection h2 with e4 e5
    subst e4 e5
    have hy : y ∉ dn := fun hy => by
      rw [h1] at hn
      exact (List.nodup_append.mp hn).2.2 y hy y (List.mem_cons_self ..) rfl
    have hl3 := congrArg List.length h1
    rw [List.length_append] at hl3
    walk_at "js"
    refine x_setD (s1 _) (kk := ks y) rfl (by rw [List.length_map]; omega) ?_
    rw [mup_mup, show D.str y = D.str (id y) from rfl, kM_new hy]
    exact hN _ _ ⟨dn ++ [y], rs, _, by rw [h1]; simp, rfl, rfl, rfl⟩
  rintro δ μ' ⟨dn, rs, o3, h1, h2, rfl, rfl⟩
  cases rs with
  | cons y rs => cases h2
  | nil =>
  rw [List.append_nil] at h1
  subst h1
  walk_at "js"
  refine loop_inv (fun r δ μ' => ∃ (d2 r2 : List Ln) (f : Str → Str) (o3 o4 o6 o7 : Option D), ls = d2 ++ r2 ∧ r = r2.map lnD ∧ Mk hs d2 f ∧ μ' = mup μ p (.dct (hs.map (kM f))) ∧ δ = [some (.lst (hs.map D.str)), some (.lst (ls.map lnD)), some (.ref p), o3, o4, none, o6, o7, none]) (fun _ _ _ _ => trivial) ?_ ?_ _ _ _ ⟨[], ls, id, _, none, none, none, rfl, rfl, .start, rfl, rfl⟩
  · rintro x r δ μ' ⟨d2, r2, f, o3, o4, o6, o7, h1, h2, M, rfl, rfl⟩ QN hN
    cases r2 with
    | nil => cases h2
    | cons z r2 =>
    rw [List.map_cons] at h2
    injection h2 with e4 e5
    subst e4 e5
    obtain ⟨ha, hb, _⟩ := hz z (by rw [h1]; simp)
    have hz2 : ∀ y ∈ d2 ++ [z], y.2.1 ≠ y.2.2 := fun y hy => (hz y (by rw [h1, List.append_cons]; exact List.mem_append_left _ hy)).2.2
    have M2 := M.step hz2 ha hb
    show kName 4 (.tup [.str z.1, .str z.2.1, .str z.2.2]) _ _ _
    walk_at "js"
    refine x_ixDA (.m (s1 _)) (kk := ks z.2.1) rfl (kM_val f ha) ?_
    walk_at "js"
    refine x_ixDA (.m (s1 _)) (kk := ks z.2.2) rfl (kM_val f hb) ?_
    walk_at "js"
    refine w_ifn (fun hne => ?_) (fun he => ?_)
    · walk_at "js"
      refine loop_inv (fun r δ μ' => ∃ (d3 r3 : List Str) (g : Str → Str) (o3 : Option D), hs = d3 ++ r3 ∧ r = r3.map D.str ∧ (∀ h ∈ d3, g h = mrg f z.2.1 z.2.2 h) ∧ (∀ h ∈ r3, g h = f h) ∧ μ' = mup μ p (.dct (hs.map (kM g))) ∧ δ = [some (.lst (hs.map D.str)), some (.lst (ls.map lnD)), some (.ref p), o3, some (.tup [.str z.1, .str z.2.1, .str z.2.2]), none, some (.str (f z.2.1)), some (.str (f z.2.2)), none]) (fun _ _ _ _ => trivial) ?_ ?_ _ _ _ ⟨[], hs, f, _, rfl, rfl, by simp, fun _ _ => rfl, rfl, rfl⟩
      · rintro x r δ μ' ⟨d3, r3, g, o3, g1, g2, g3, g4, rfl, rfl⟩ QN hN
        cases r3 with
        | nil => cases g2
        | cons y r3 =>
        rw [List.map_cons] at g2
        injection g2 with e4 e5
        subst e4 e5
        have hy : y ∈ hs := by rw [g1]; simp
        have hnd : y ∉ d3 ∧ y ∉ r3 := by
          rw [g1] at hn
          obtain ⟨_, k1, k2⟩ := List.nodup_append.mp hn
          exact ⟨fun hm => k2 y hm y (List.mem_cons_self ..) rfl, (List.nodup_cons.mp k1).1⟩
        have gy : g y = f y := g4 y (List.mem_cons_self ..)
        have go : (f y = f z.2.1 ∨ f y = f z.2.2) → (mup μ p (.dct (putKD (hs.map (kM g)) (ks y) (.str (mn (f z.2.1) (f z.2.2)))))) = mup μ p (.dct (hs.map (kM fun h => if h = y then mn (f z.2.1) (f z.2.2) else g h))) := fun _ => by rw [kM_put hy]
        have fin : (f y = f z.2.1 ∨ f y = f z.2.2) → QN [some (.lst (hs.map D.str)), some (.lst (ls.map lnD)), some (.ref p), some (.str y), some (.tup [.str z.1, .str z.2.1, .str z.2.2]), none, some (.str (f z.2.1)), some (.str (f z.2.2)), none] (mup μ p (.dct (putKD (hs.map (kM g)) (ks y) (.str (mn (f z.2.1) (f z.2.2)))))) := fun hor => by
          rw [go hor]
          refine hN _ _ ⟨d3 ++ [y], r3, _, _, by rw [g1]; simp, rfl, fun h hh => ?_, fun h hh => ?_, rfl, rfl⟩
          · show (if h = y then mn (f z.2.1) (f z.2.2) else g h) = _
            rcases List.mem_append.mp hh with hh | hh
            · rw [if_neg (fun e : h = y => hnd.1 (e ▸ hh))]
              exact g3 h hh
            · obtain rfl : h = y := by simpa using hh
              unfold mrg
              rw [if_pos rfl, if_pos hor]
          · show (if h = y then mn (f z.2.1) (f z.2.2) else g h) = _
            rw [if_neg (fun e : h = y => hnd.2 (e ▸ hh))]
            exact g4 h (List.mem_cons_of_mem _ hh)
        have set1 : ∀ (v : Str) (k : Mu → Prop), k (mup μ p (.dct (putKD (hs.map (kM g)) (ks y) (.str v)))) → set2 (.ref p) (.str y) (.str v) (mup μ p (.dct (hs.map (kM g)))) k := fun v k hk => by
          refine x_setD (s1 _) (kk := ks y) rfl (by rw [List.length_map]; omega) ?_
          rw [mup_mup]
          exact hk
        walk_at "js"
        refine x_ixDA (.m (s1 _)) (kk := ks y) rfl (kM_val g hy) ?_
        rw [gy]
        walk_at "js"
        refine w_ifd (fun h3 => ?_) (fun h3 => ?_)
        · refine w_true ?_
          walk_at "js"
          refine x_minS ?_
          walk_at "js"
          exact set1 (mn _ _) _ (fin (.inl h3))
        · walk_at "js"
          refine x_ixDA (.m (s1 _)) (kk := ks y) rfl (kM_val g hy) ?_
          rw [gy]
          walk_at "js"
          refine w_ifd (fun h4 => ?_) (fun h4 => ?_)
          · walk_at "js"
            refine x_minS ?_
            walk_at "js"
            exact set1 (mn _ _) _ (fin (.inr h4))
          · walk_at "js"
            refine hN _ _ ⟨d3 ++ [y], r3, g, _, by rw [g1]; simp, rfl, fun h hh => ?_, fun h hh => g4 h (List.mem_cons_of_mem _ hh), rfl, rfl⟩
            rcases List.mem_append.mp hh with hh | hh
            · exact g3 h hh
            · obtain rfl : h = y := by simpa using hh
              unfold mrg
              rw [gy, if_neg (fun k => k.elim h3 h4)]
      · rintro δ μ' ⟨d3, r3, g, o3, g1, g2, g3, g4, rfl, rfl⟩
        cases r3 with
        | cons y r3 => cases g2
        | nil =>
        rw [List.append_nil] at g1
        exact hN _ _ ⟨d2 ++ [z], r2, g, _, _, _, _, by rw [h1]; simp, rfl, M2.congr fun h hh => (g3 h (g1 ▸ hh)).symm, rfl, rfl⟩
    · walk_at "js"
      exact hN _ _ ⟨d2 ++ [z], r2, f, _, _, _, _, by rw [h1]; simp, rfl, M2.congr fun h hh => Mk.same (hs := hs) (dn := d2) he h, rfl, rfl⟩
  rintro δ μ' ⟨d2, r2, f, o3, o4, o6, o7, h1, h2, M, rfl, rfl⟩
  cases r2 with
  | cons y r2 => cases h2
  | nil =>
  rw [List.append_nil] at h1
  subst h1
  walk_at "js"
  refine .m fun p2 hp2 => ?_
  have h12 : p ≠ p2 := fun e => by rw [← e, mup_same] at hp2; cases hp2
  have hp20 : μ p2 = none := by rw [mup_ne h12.symm] at hp2; exact hp2
  walk_at "js"
  refine x_sortedW hl hp hs1 (.f ?_)
  walk_at "js"
  have t1 : ∀ (xs : List D), (mup (mup μ p (.dct (hs.map (kM f)))) p2 (.lst xs)) p = some (.dct (hs.map (kM f))) := fun xs => (mup_ne h12).trans mup_same
  have t2 : ∀ (xs : List D), (mup (mup μ p (.dct (hs.map (kM f)))) p2 (.lst xs)) p2 = some (.lst xs) := fun xs => mup_same
  have hyl := hp.length_eq
  refine loop_inv (fun r δ μ' => ∃ (dn rs : List Str) (o3 : Option D), ys = dn ++ rs ∧ r = rs.map D.str ∧ μ' = mup (mup μ p (.dct (hs.map (kM f)))) p2 (.lst ((dnP ys ls dn).map fun p => .lst (p.map D.str))) ∧ δ = [some (.lst (hs.map D.str)), some (.lst (ls.map lnD)), some (.ref p), o3, o4, some (.ref p2), o6, o7, none]) (fun _ _ _ _ => trivial) ?_ ?_ _ _ _ ⟨[], ys, _, rfl, rfl, rfl, rfl⟩
  · rintro x r δ μ' ⟨dn, rs, o3, h1, h2, rfl, rfl⟩ QN hN
    cases rs with
    | nil => cases h2
    | cons y rs =>
    rw [List.map_cons] at h2
    injection h2 with e4 e5
    subst e4 e5
    have hy : y ∈ hs := hp.subset (by rw [h1]; simp)
    have hl3 := congrArg List.length h1
    rw [List.length_append, List.length_cons] at hl3
    have hdl := dnP_len (ys := ys) (zs := ls) (dn := dn)
    walk_at "js"
    refine x_ixDA (.m (t1 _)) (kk := ks y) rfl (kM_val f hy) ?_
    walk_at "js"
    refine w_ifd (fun hfy => ?_) (fun hfy => ?_)
    · walk_at "js"
      refine x_sortedW hl hp hs1 (.f ?_)
      walk_at "js"
      refine lc_fmZ ys D.str (fun t => if f t = y then some (D.str t) else none) (by omega) (fun t ht Y Nn k1 k2 => ?_) (.f ?_)
      · walk_at "js"
        refine x_ixDA (.m (t1 _)) (kk := ks t) rfl (kM_val f (hp.subset ht)) ?_
        walk_at "js"
        refine w_ifd (fun hft => ?_) (fun hft => ?_)
        · walk_at "js"
          exact k1 _ (by rw [if_pos hft])
        · exact k2 (by rw [if_neg hft])
      · rw [M.part hp hy hfy]
        walk_at "js"
        refine x_append (t2 _) (by rw [List.length_map]; omega) ?_
        rw [mup_mup]
        exact hN _ _ ⟨dn ++ [y], rs, _, by rw [h1]; simp, rfl, by rw [dnP_snoc, if_pos ((M.least hp hy).mp hfy), List.map_append]; rfl, rfl⟩
    · walk_at "js"
      exact hN _ _ ⟨dn ++ [y], rs, _, by rw [h1]; simp, rfl, by rw [dnP_snoc, if_neg (fun h => hfy ((M.least hp hy).mpr h)), List.append_nil], rfl⟩
  · rintro δ μ' ⟨dn, rs, o3, h1, h2, rfl, rfl⟩
    cases rs with
    | cons y rs => cases h2
    | nil =>
    rw [List.append_nil] at h1
    subst h1
    walk_at "js"
    refine .join (.lst (t2 _) (.drop (μ' := μ) (fun b o hb => ?_) q))
    have nb1 : b ≠ p := fun e => by rw [e, hp1] at hb; cases hb
    have nb2 : b ≠ p2 := fun e => by rw [e, hp20] at hb; cases hb
    unfold mdel
    rw [if_neg nb2, mup_ne nb2, mup_ne nb1]
    exact hb
theorem least_ex {ys : List Str} {zs : List Ln} (hz : ∀ z ∈ zs, z.2.1 ≠ z.2.2) (hs : ys.Pairwise leS) (hn : ys.Nodup) (hin : ∀ a b, Adj zs a b → b ∈ ys) {h : Str} (hh : h ∈ ys) : ∃ t ∈ ys, Lst ys zs t ∧ Jn zs h t := by
  have hm : h ∈ prt ys zs h := mem_prt.mpr ⟨hh, .refl⟩
  cases e : prt ys zs h with
  | nil => rw [e] at hm; cases hm
  | cons t r =>
    have ht : t ∈ prt ys zs h := by rw [e]; exact List.mem_cons_self ..
    obtain ⟨k1, k2⟩ := mem_prt.mp ht
    refine ⟨t, k1, fun u hu hj hlt => ?_, k2⟩
    have k3 := prt_srt (zs := zs) (h := h) hs
    rw [e] at k3
    have hu2 : u ∈ prt ys zs h := mem_prt.mpr ⟨hu, k2.trans hj⟩
    rw [e] at hu2
    rcases List.mem_cons.mp hu2 with rfl | hu2
    · exact List.lt_irrefl _ hlt
    · exact (List.pairwise_cons.mp k3).1 u hu2 hlt
theorem pts_mem {ys : List Str} {zs : List Ln} {p : List Str} : p ∈ pts ys zs ↔ ∃ h ∈ ys, Lst ys zs h ∧ prt ys zs h = p := by
  classical
  unfold pts
  rw [List.mem_map]
  constructor
  · rintro ⟨h, k1, k2⟩
    obtain ⟨k1, k3⟩ := List.mem_filter.mp k1
    exact ⟨h, k1, of_decide_eq_true k3, k2⟩
  · rintro ⟨h, k1, k3, k2⟩
    exact ⟨h, List.mem_filter.mpr ⟨k1, decide_eq_true k3⟩, k2⟩

/-! ### the parts judged -/
section
open Classical
noncomputable def hds (ys : List Str) (zs : List Ln) : List Str := ys.filter fun h => decide (Lst ys zs h)
theorem pts_hds (ys : List Str) (zs : List Ln) : pts ys zs = (hds ys zs).map (prt ys zs) := rfl
theorem hds_mem {ys : List Str} {zs : List Ln} {h : Str} : h ∈ hds ys zs ↔ h ∈ ys ∧ Lst ys zs h := by
  unfold hds
  rw [List.mem_filter, decide_eq_true_iff]
theorem hds_nd {ys : List Str} {zs : List Ln} (hn : ys.Nodup) : (hds ys zs).Nodup := hn.sublist (List.filter_sublist ..)
theorem hds_srt {ys : List Str} {zs : List Ln} (hs : ys.Pairwise leS) : (hds ys zs).Pairwise leS := hs.filter _
theorem hds_len {ys : List Str} {zs : List Ln} : (hds ys zs).length ≤ ys.length := List.length_filter_le ..
theorem prt_nd {ys : List Str} {zs : List Ln} {h : Str} (hn : ys.Nodup) : (prt ys zs h).Nodup := hn.sublist (List.filter_sublist ..)
end
theorem prt_head {ys : List Str} {zs : List Ln} (hs : ys.Pairwise leS) {h : Str} (hh : h ∈ ys) (hL : Lst ys zs h) : ∃ r, prt ys zs h = h :: r := by
  have hm : h ∈ prt ys zs h := mem_prt.mpr ⟨hh, .refl⟩
  have k3 := prt_srt (zs := zs) (h := h) hs
  cases e : prt ys zs h with
  | nil => rw [e] at hm; cases hm
  | cons t r =>
    have ht : t ∈ prt ys zs h := by rw [e]; exact List.mem_cons_self ..
    obtain ⟨k1, k2⟩ := mem_prt.mp ht
    rw [e] at hm k3
    rcases List.mem_cons.mp hm with rfl | hm
    · exact ⟨r, rfl⟩
    · have e2 : t = h := leS_anti ((List.pairwise_cons.mp k3).1 h hm) (List.not_lt.mp (hL t k1 k2))
      exact ⟨r, by rw [e2]⟩
theorem lst_one {ys : List Str} {zs : List Ln} (hz : ∀ z ∈ zs, z.2.1 ≠ z.2.2) {a b : Str} (ha : a ∈ ys) (hb : b ∈ ys) (la : Lst ys zs a) (lb : Lst ys zs b) (hj : Jn zs a b) : a = b :=
  leS_anti (List.not_lt.mp (la b hb hj)) (List.not_lt.mp (lb a ha (hj.symm hz)))
theorem hds_one {ys : List Str} {zs : List Ln} (hz : ∀ z ∈ zs, z.2.1 ≠ z.2.2) (hn : ys.Nodup) {i j : Nat} {a b t : Str} (ha : (hds ys zs)[i]? = some a) (hb : (hds ys zs)[j]? = some b) (h1 : t ∈ prt ys zs a) (h2 : t ∈ prt ys zs b) : i = j := by
  obtain ⟨k1, k2⟩ := hds_mem.mp (List.mem_of_getElem? ha)
  obtain ⟨k3, k4⟩ := hds_mem.mp (List.mem_of_getElem? hb)
  have e := lst_one hz k1 k3 k2 k4 ((mem_prt.mp h1).2.trans ((mem_prt.mp h2).2.symm hz))
  subst e
  obtain ⟨l1, e1⟩ := List.getElem?_eq_some_iff.mp ha
  obtain ⟨l2, e2⟩ := List.getElem?_eq_some_iff.mp hb
  have hnd := List.pairwise_iff_getElem.mp (hds_nd (zs := zs) hn)
  rcases Nat.lt_trichotomy i j with h | h | h
  · exact absurd (e1.trans e2.symm) (hnd i j l1 l2 h)
  · exact h
  · exact absurd (e2.trans e1.symm) (hnd j i l2 l1 h)
/-- what was seen of a part -/
structure Sn (ys : List Str) (zs : List Ln) (h : Str) (sn : List Str) : Prop where
  nd : sn.Nodup
  sub : ∀ t ∈ sn, t ∈ prt ys zs h
  hd : h ∈ sn
theorem Sn.len {ys : List Str} {zs : List Ln} {h : Str} {sn : List Str} (S : Sn ys zs h sn) : sn.length ≤ (prt ys zs h).length := nodup_sub S.nd S.sub
theorem Sn.closed {ys : List Str} {zs : List Ln} {h : Str} {sn : List Str} (S : Sn ys zs h sn) (hz : ∀ z ∈ zs, z.2.1 ≠ z.2.2) (hn : ys.Nodup) (hc : ∀ z ∈ zs, z.2.1 ∈ sn ↔ z.2.2 ∈ sn) : (prt ys zs h).length ≤ sn.length := by
  have step : ∀ n a b, Wk zs n a b → a ∈ sn → b ∈ sn := fun n a b w => by
    induction w with
    | nil => exact id
    | cons h1 _ ih =>
      intro ha
      refine ih ?_
      obtain ⟨z, hz1, h2⟩ := (adj_iff hz).mp h1
      rcases h2 with ⟨rfl, rfl⟩ | ⟨rfl, rfl⟩
      · exact (hc z hz1).mp ha
      · exact (hc z hz1).mpr ha
  refine nodup_sub (prt_nd hn) fun t ht => ?_
  obtain ⟨_, n, w⟩ := mem_prt.mp ht
  exact step n h t w S.hd
theorem Sn.grow {ys : List Str} {zs : List Ln} {h : Str} {sn : List Str} (S : Sn ys zs h sn) {a b : Str} (hab : Adj zs a b) (hb : b ∈ ys) (ha : a ∈ sn) (hn : b ∉ sn) : Sn ys zs h (sn ++ [b]) := by
  refine ⟨List.nodup_append.mpr ⟨S.nd, by simp, fun x hx y hy e => ?_⟩, fun t ht => ?_, List.mem_append_left _ S.hd⟩
  · obtain rfl : y = b := by simpa using hy
    exact hn (e ▸ hx)
  · rcases List.mem_append.mp ht with ht | ht
    · exact S.sub t ht
    · obtain rfl : t = b := by simpa using ht
      exact mem_prt.mpr ⟨hb, (mem_prt.mp (S.sub a ha)).2.trans (.adj hab)⟩
/-- the places after k parts -/
structure Pc (ys : List Str) (zs : List Ln) (k : Nat) (cs : List Ct) : Prop where
  nd : (cs.map (·.1)).Nodup
  iff : ∀ t i, (t, i) ∈ cs ↔ i < k ∧ ∃ h, (hds ys zs)[i]? = some h ∧ t ∈ prt ys zs h
theorem Pc.len {ys : List Str} {zs : List Ln} {k : Nat} {cs : List Ct} (P : Pc ys zs k cs) : cs.length ≤ ys.length := by
  have := nodup_sub (m := ys) P.nd fun x hx => by
    obtain ⟨⟨t, i⟩, hc, rfl⟩ := List.mem_map.mp hx
    obtain ⟨_, h, _, k2⟩ := (P.iff t i).mp hc
    exact (mem_prt.mp k2).1
  rw [List.length_map] at this
  exact this

/-! ### the lines without one -/
def sp_l_without : Sp2 := fun ds μ Q _ => ∃ (ls : List Ln) (n : Str), ds = [.lst (ls.map lnD), .str n] ∧ ls.length ≤ 1000 ∧ Q (.lst ((less ls (.str n)).map lnD)) μ
theorem len_l_without (ds : List D) (μ : Mu) (Q : QE) (ex : Ex2) (h : sp_l_without ds μ Q ex) : ds.length = 2 := by
  obtain ⟨ls, n, rfl, _⟩ := h
  rfl
theorem pure_l_without (ds : List D) (μ : Mu) (Q : QE) (ex : Ex2) (h : sp_l_without ds μ Q ex) : t_l_without (ends Q) (startD ["a", "b", "c"] ds) μ := by
  obtain ⟨ls, n, rfl, hl, q⟩ := h
  have hsz := sizeLine_eq
  unfold t_l_without
  show jRet _ (ends Q) [some _, some _, none] μ
  walk_at "js"
  refine x_less (wo := .str n) (by omega) (fun z hz Y Nn k1 k2 => ?_) (.f (.of q))
  show kName 2 (.tup [.str z.1, .str z.2.1, .str z.2.2]) _ _ _
  walk_at "js"
  refine w_ifn (fun h => ?_) (fun h => ?_)
  · walk_at "js"
    exact k1 (decide_eq_false h)
  · exact k2 (decide_eq_true h)

/-! ### with_line -/
def sp_Web_with_line : Sp2 := fun ds μ Q ex => ∃ (ys : List Str) (ps zs : List Ln) (l a b : D), ds = [.ins "Web" (webF ys ps zs), l, a, b] ∧ WebOk ys ps zs ∧ Vl l ∧ Vl a ∧ Vl b ∧
  (duePut ys (ps.map (·.1)) l a b = none → ∀ zs', WebOk ys (ps ++ [mkLn l a b]) zs' → Q (.ins "Web" (webF ys (ps ++ [mkLn l a b]) zs')) μ) ∧ erX (duePut ys (ps.map (·.1)) l a b) ex μ
theorem len_Web_with_line (ds : List D) (μ : Mu) (Q : QE) (ex : Ex2) (h : sp_Web_with_line ds μ Q ex) : ds.length = 4 := by
  obtain ⟨ys, ps, zs, l, a, b, rfl, _⟩ := h
  rfl
theorem pure_Web_with_line (ds : List D) (μ : Mu) (Q : QE) (ex : Ex2) (h : sp_Web_with_line ds μ Q ex) : t_Web_with_line sp_check_new_line sp_ordered sp_checked_web (fun _ => ex) (ends Q) (startD ["a", "b", "c", "d", "e"] ds) μ := by
  obtain ⟨ys, ps, zs, l, a, b, rfl, hw, v1, v2, v3, q1, q2⟩ := h
  have hsz := sizeLine_eq
  unfold t_Web_with_line
  show jSeq _ _ (ends Q) [some _, some _, some _, some _, none] μ
  walk_at "js"
  refine ⟨l, a, b, _, _, ys, ps.map (·.1), rfl, ⟨_, .f, nearD_keys ys zs⟩, ⟨_, .f, prD_keys ps⟩, v1, v2, v3, fun hok => .of ?_, q2⟩
  have q1 := q1 hok
  have ho2 := hw.ok.app hok
  obtain ⟨l, a, b, rfl, rfl, rfl, hl, _, _, h1, h2, h3, h4, h5⟩ := duePut_none hok
  walk_at "js"
  refine x_dictDA .f (.m fun p hp => ?_)
  walk_at "js"
  rename_i N hN
  refine ⟨a, b, rfl, .of ?_⟩
  walk_at "js"
  refine x_setD mup_same (kk := ks l) rfl (by rw [List.length_map]; have := hw.ok.len; omega) ?_
  rw [mup_mup, put_pr h4]
  refine x_nx hN ?_
  refine Gst.dct (i := 4) rfl mup_same ?_
  rw [mdel_mup hp]
  dsimp only [List.set]
  walk_at "js"
  exact ⟨ys, _, rfl, hw.nd, hw.len, ho2, fun zs' hz hs => .of (.of (q1 zs' ⟨hw.nd, hw.len, hw.srt, ho2, hz, hs⟩))⟩

/-! ### how many parts; the lines that join -/
theorem hds_snoc_mem {ys : List Str} {zs : List Ln} {z : Ln} (hz : ∀ y ∈ zs ++ [z], y.2.1 ≠ y.2.2) {a b : Str} (ha : a ∈ ys) (hb : b ∈ ys) (la : Lst ys zs a) (lb : Lst ys zs b) (ja : Jn zs z.2.1 a) (jb : Jn zs z.2.2 b) (hab : a.cps.toList < b.cps.toList) (h : Str) :
    h ∈ hds ys (zs ++ [z]) ↔ h ∈ hds ys zs ∧ h ≠ b := by
  have hz0 : ∀ y ∈ zs, y.2.1 ≠ y.2.2 := fun y hy => hz y (List.mem_append_left _ hy)
  rw [hds_mem, hds_mem]
  constructor
  · rintro ⟨h1, h2⟩
    refine ⟨⟨h1, fun t ht hj => h2 t ht (hj.mono hz)⟩, ?_⟩
    rintro rfl
    refine h2 a ha ?_ hab
    exact (Jn.snoc hz).mpr (.inr (.inr ⟨jb.symm hz0, ja⟩))
  · rintro ⟨⟨h1, h2⟩, h3⟩
    refine ⟨h1, fun t ht hj hlt => ?_⟩
    rcases (Jn.snoc hz).mp hj with k | ⟨k1, k2⟩ | ⟨k1, k2⟩
    · exact h2 t ht k hlt
    · have e := lst_one hz0 h1 ha h2 la (k1.trans ja)
      subst e
      have k3 : Jn zs b t := (jb.symm hz0).trans k2
      have := lb t ht k3
      exact this (List.lt_trans hlt hab)
    · exact h3 (lst_one hz0 h1 hb h2 lb (k1.trans jb))
theorem jn_flip {zs : List Ln} {z : Ln} (hz : ∀ y ∈ zs ++ [z], y.2.1 ≠ y.2.2) {a b : Str} : Jn (zs ++ [z]) a b ↔ Jn (zs ++ [(z.1, z.2.2, z.2.1)]) a b := by
  have hz2 : ∀ y ∈ zs ++ [((z.1, z.2.2, z.2.1) : Ln)], y.2.1 ≠ y.2.2 := fun y hy => by
    rcases List.mem_append.mp hy with hy | hy
    · exact hz y (List.mem_append_left _ hy)
    · obtain rfl : y = (z.1, z.2.2, z.2.1) := by simpa using hy
      exact (hz z (by simp)).symm
  refine Jn.congr fun a b => ?_
  rw [adj_snoc hz, adj_snoc hz2]
  exact ⟨fun h => h.imp id Or.symm, fun h => h.imp id Or.symm⟩
theorem hds_congr {ys : List Str} {zs zs' : List Ln} (hc : ∀ a b, Jn zs a b ↔ Jn zs' a b) : hds ys zs = hds ys zs' := by
  unfold hds
  exact List.filter_congr fun h _ => decide_eq_decide.mpr (by unfold Lst; simp only [hc])
theorem pts_snoc {ys : List Str} {zs : List Ln} {z : Ln} (hs : ys.Pairwise leS) (hn : ys.Nodup) (hz : ∀ y ∈ zs ++ [z], y.2.1 ∈ ys ∧ y.2.2 ∈ ys ∧ y.2.1 ≠ y.2.2) :
    (Jn zs z.2.1 z.2.2 → (pts ys (zs ++ [z])).length = (pts ys zs).length) ∧ (¬ Jn zs z.2.1 z.2.2 → (pts ys (zs ++ [z])).length + 1 = (pts ys zs).length) := by
  have hz1 : ∀ y ∈ zs ++ [z], y.2.1 ≠ y.2.2 := fun y hy => (hz y hy).2.2
  have hz0 : ∀ y ∈ zs, y.2.1 ≠ y.2.2 := fun y hy => hz1 y (List.mem_append_left _ hy)
  have hin : ∀ a b, Adj zs a b → b ∈ ys := fun a b h => adj_in (fun y hy => hz y (List.mem_append_left _ hy)) a b h
  obtain ⟨i1, i2, _⟩ := hz z (by simp)
  rw [pts_hds, pts_hds, List.length_map, List.length_map]
  constructor
  · intro hj
    rw [hds_congr (zs := zs ++ [z]) (zs' := zs) fun a b => ⟨fun h => ?_, fun h => h.mono hz1⟩]
    rcases (Jn.snoc hz1).mp h with k | ⟨k1, k2⟩ | ⟨k1, k2⟩
    · exact k
    · exact (k1.trans hj).trans k2
    · exact (k1.trans (hj.symm hz0)).trans k2
  · intro hj
    obtain ⟨a, a1, a2, a3⟩ := least_ex hz0 hs hn hin i1
    obtain ⟨b, b1, b2, b3⟩ := least_ex hz0 hs hn hin i2
    have hne : a ≠ b := fun e => by
      subst e
      exact hj (a3.trans (b3.symm hz0))
    have fin : ∀ b, b ∈ hds ys zs → (∀ h, h ∈ hds ys (zs ++ [z]) ↔ h ∈ hds ys zs ∧ h ≠ b) → (hds ys (zs ++ [z])).length + 1 = (hds ys zs).length := fun b hb hm => by
      have hp : (hds ys (zs ++ [z])).Perm ((hds ys zs).erase b) := (List.perm_ext_iff_of_nodup (hds_nd hn) ((hds_nd hn).erase b)).mpr fun h => by
        rw [hm, (hds_nd hn).mem_erase_iff]
        exact and_comm
      rw [hp.length_eq, List.length_erase_of_mem hb]
      have := List.length_pos_of_mem hb
      omega
    by_cases hlt : a.cps.toList < b.cps.toList
    · exact fin b (hds_mem.mpr ⟨b1, b2⟩) (hds_snoc_mem hz1 a1 b1 a2 b2 a3 b3 hlt)
    · have hgt := str_ne_lt hne.symm hlt
      have hz2 : ∀ y ∈ zs ++ [((z.1, z.2.2, z.2.1) : Ln)], y.2.1 ≠ y.2.2 := fun y hy => by
        rcases List.mem_append.mp hy with hy | hy
        · exact hz0 y hy
        · obtain rfl : y = (z.1, z.2.2, z.2.1) := by simpa using hy
          exact (hz1 z (by simp)).symm
      refine fin a (hds_mem.mpr ⟨a1, a2⟩) fun h => ?_
      rw [hds_congr fun _ _ => jn_flip hz1]
      exact hds_snoc_mem hz2 b1 a1 b2 a2 b3 a3 hgt h
section
open Classical
/-- the lines that join two parts, one after another, behind P -/
noncomputable def grd : List Ln → List Ln → List Ln
  | _, [] => []
  | P, z :: r => if Jn P z.2.1 z.2.2 then grd (P ++ [z]) r else z :: grd (P ++ [z]) r
theorem grd_cons {P r : List Ln} {z : Ln} : grd P (z :: r) = if Jn P z.2.1 z.2.2 then grd (P ++ [z]) r else z :: grd (P ++ [z]) r := rfl
def Frs : List Ln → List Ln → Prop
  | _, [] => True
  | P, z :: r => ¬ Jn P z.2.1 z.2.2 ∧ Frs (P ++ [z]) r
theorem frs_cons {P r : List Ln} {z : Ln} : Frs P (z :: r) ↔ ¬ Jn P z.2.1 z.2.2 ∧ Frs (P ++ [z]) r := Iff.rfl
theorem grd_sub : ∀ (P S : List Ln), (grd P S).Sublist S
  | _, [] => List.Sublist.refl _
  | P, z :: r => by
    rw [grd_cons]
    split
    · exact (grd_sub _ r).cons z
    · exact (grd_sub _ r).cons_cons z
theorem frs_len : ∀ (P S : List Ln), (grd P S).length = S.length ↔ Frs P S
  | _, [] => ⟨fun _ => trivial, fun _ => rfl⟩
  | P, z :: r => by
    have h1 := frs_len (P ++ [z]) r
    have h2 := (grd_sub (P ++ [z]) r).length_le
    rw [grd_cons, frs_cons]
    split
    · rename_i h
      rw [List.length_cons]
      exact ⟨fun e => by omega, fun e => absurd h e.1⟩
    · rename_i h
      rw [List.length_cons, List.length_cons, ← h1]
      exact ⟨fun e => ⟨h, by omega⟩, fun e => by rw [e.2]⟩
theorem grd_app : ∀ (P S T : List Ln), grd P (S ++ T) = grd P S ++ grd (P ++ S) T
  | P, [], T => by rw [List.nil_append, List.append_nil]; rfl
  | P, z :: r, T => by
    rw [List.cons_append]
    rw [grd_cons, grd_cons, grd_app (P ++ [z]) r T, show P ++ [z] ++ r = P ++ z :: r by simp]
    split
    · rfl
    · rfl
theorem frs_app : ∀ (P S T : List Ln), Frs P (S ++ T) ↔ Frs P S ∧ Frs (P ++ S) T
  | P, [], T => by rw [List.nil_append, List.append_nil]; exact ⟨fun h => ⟨trivial, h⟩, fun h => h.2⟩
  | P, z :: r, T => by
    rw [List.cons_append]
    rw [frs_cons, frs_cons, frs_app (P ++ [z]) r T, show P ++ [z] ++ r = P ++ z :: r by simp, and_assoc]
theorem pts_grd {ys : List Str} (hs : ys.Pairwise leS) (hn : ys.Nodup) : ∀ (S P : List Ln), (∀ y ∈ P ++ S, y.2.1 ∈ ys ∧ y.2.2 ∈ ys ∧ y.2.1 ≠ y.2.2) → (pts ys (P ++ S)).length + (grd P S).length = (pts ys P).length
  | [], P, _ => by rw [List.append_nil]; rfl
  | z :: r, P, h => by
    have e : P ++ z :: r = P ++ [z] ++ r := by simp
    rw [e] at h ⊢
    have ih := pts_grd hs hn r (P ++ [z]) h
    have hp := pts_snoc (zs := P) (z := z) hs hn fun y hy => h y (List.mem_append_left _ hy)
    rw [grd_cons]
    split
    · rename_i hj
      rw [ih, hp.1 hj]
    · rename_i hj
      have := hp.2 hj
      rw [List.length_cons]
      omega
theorem pts_nil {ys : List Str} : (pts ys []).length = ys.length := by
  rw [pts_hds, List.length_map]
  have : hds ys [] = ys := by
    unfold hds
    rw [List.filter_eq_self]
    exact fun h _ => decide_eq_true fun t _ hj hlt => by
      rw [Jn.nil.mp hj] at hlt
      exact List.lt_irrefl _ hlt
  rw [this]
theorem frs_nd {S : List Ln} (hz : ∀ y ∈ S, y.2.1 ≠ y.2.2) : Frs [] S → S.Nodup := by
  have go : ∀ (S P : List Ln), (∀ y ∈ P ++ S, y.2.1 ≠ y.2.2) → Frs P S → S.Nodup ∧ ∀ z ∈ S, z ∉ P := fun S => by
    induction S with
    | nil => exact fun _ _ _ => ⟨List.nodup_nil, by simp⟩
    | cons z r ih =>
      intro P h f
      have e : P ++ z :: r = P ++ [z] ++ r := by simp
      obtain ⟨h1, h2⟩ := ih (P ++ [z]) (by rw [← e]; exact h) f.2
      refine ⟨List.nodup_cons.mpr ⟨fun hm => h2 z hm (by simp), h1⟩, fun y hy hp => ?_⟩
      rcases List.mem_cons.mp hy with rfl | hy
      · exact f.1 (.adj ((adj_iff fun x hx => h x (List.mem_append_left _ hx)).mpr ⟨y, hp, .inl ⟨rfl, rfl⟩⟩))
      · exact h2 y hy (List.mem_append_left _ hp)
  exact fun f => (go S [] (by simpa using hz) f).1
theorem jn_mem {zs zs' : List Ln} (hz : ∀ y ∈ zs, y.2.1 ≠ y.2.2) (hm : ∀ y, y ∈ zs ↔ y ∈ zs') (a b : Str) : Jn zs a b ↔ Jn zs' a b := Jn.congr fun a b => adj_congr hz hm a b
theorem grd_len {ys : List Str} {S : List Ln} (hs : ys.Pairwise leS) (hn : ys.Nodup) (h : ∀ y ∈ S, y.2.1 ∈ ys ∧ y.2.2 ∈ ys ∧ y.2.1 ≠ y.2.2) : (pts ys S).length + (grd [] S).length = ys.length := by
  have := pts_grd hs hn S [] (by simpa using h)
  rwa [List.nil_append, pts_nil] at this
/-- fewer lines, as many parts: the same parts -/
theorem pts_eq {ys : List Str} {S zs : List Ln} (hs : ys.Pairwise leS) (hn : ys.Nodup) (h : ∀ y ∈ zs, y.2.1 ∈ ys ∧ y.2.2 ∈ ys ∧ y.2.1 ≠ y.2.2) (hsub : ∀ y ∈ S, y ∈ zs) (he : (pts ys S).length = (pts ys zs).length) : pts ys S = pts ys zs := by
  have hz : ∀ y ∈ zs, y.2.1 ≠ y.2.2 := fun y hy => (h y hy).2.2
  have hzS : ∀ y ∈ S, y.2.1 ≠ y.2.2 := fun y hy => hz y (hsub y hy)
  have hin : ∀ a b, Adj S a b → b ∈ ys := fun a b k => adj_in (fun y hy => h y (hsub y hy)) a b k
  have up : ∀ {a b}, Jn S a b → Jn zs a b := fun k => k.map fun a b q => by
    obtain ⟨y, h1, h2⟩ := (adj_iff hzS).mp q
    exact .adj ((adj_iff hz).mpr ⟨y, hsub y h1, h2⟩)
  rw [pts_hds, pts_hds, List.length_map, List.length_map] at he
  have hh : ∀ x ∈ hds ys zs, x ∈ hds ys S := fun x hx => by
    obtain ⟨k1, k2⟩ := hds_mem.mp hx
    exact hds_mem.mpr ⟨k1, fun t ht hj => k2 t ht (up hj)⟩
  have hh2 : ∀ x ∈ hds ys S, x ∈ hds ys zs := fun x hx => Decidable.byContradiction fun hno => by
    have := nodup_sub (l := x :: hds ys zs) (m := hds ys S) (List.nodup_cons.mpr ⟨hno, hds_nd hn⟩) fun t ht => by
      rcases List.mem_cons.mp ht with rfl | ht
      · exact hx
      · exact hh t ht
    rw [List.length_cons] at this
    omega
  have e1 : hds ys S = hds ys zs := List.Perm.eq_of_pairwise (fun _ _ _ _ a b => leS_anti a b) (hds_srt hs) (hds_srt hs) ((List.perm_ext_iff_of_nodup (hds_nd hn) (hds_nd hn)).mpr fun x => ⟨hh2 x, hh x⟩)
  rw [pts_hds, pts_hds, e1]
  refine List.map_congr_left fun x hx => ?_
  obtain ⟨x1, x2⟩ := hds_mem.mp hx
  obtain ⟨_, x3⟩ := hds_mem.mp (hh x hx)
  unfold prt
  refine List.filter_congr fun t ht => decide_eq_decide.mpr ⟨up, fun hj => ?_⟩
  obtain ⟨t', t1, t2, t3⟩ := least_ex hzS hs hn hin ht
  have k : t' ∈ hds ys zs := hh2 t' (hds_mem.mpr ⟨t1, t2⟩)
  have e : x = t' := lst_one hz x1 t1 x2 (hds_mem.mp k).2 (hj.trans (up t3))
  subst e
  exact t3.symm hzS
/-- lines that joined nothing below them add nothing to what is joined there -/
theorem grd_adds {P : List Ln} {z : Ln} : ∀ {S : List Ln}, (∀ y ∈ P ++ [z] ++ S, y.2.1 ≠ y.2.2) → Jn (P ++ grd (P ++ [z]) S) z.2.1 z.2.2 → Jn P z.2.1 z.2.2 := by
  intro S
  have rev : ∀ T : List Ln, S = T.reverse → (∀ y ∈ P ++ [z] ++ S, y.2.1 ≠ y.2.2) → Jn (P ++ grd (P ++ [z]) S) z.2.1 z.2.2 → Jn P z.2.1 z.2.2 := fun T => by
    induction T generalizing S with
    | nil =>
      rintro rfl _ hj
      unfold grd at hj
      simpa using hj
    | cons y T ih =>
      intro e h hj
      rw [List.reverse_cons] at e
      subst e
      have h' : ∀ x ∈ P ++ [z] ++ T.reverse, x.2.1 ≠ x.2.2 := fun x hx => h x (by rw [← List.append_assoc]; exact List.mem_append_left _ hx)
      have sub : ∀ x ∈ P ++ grd (P ++ [z]) T.reverse, x ∈ P ++ [z] ++ T.reverse := fun x hx => by
        rcases List.mem_append.mp hx with hx | hx
        · exact List.mem_append_left _ (List.mem_append_left _ hx)
        · exact List.mem_append_right _ ((grd_sub _ _).subset hx)
      have hG : ∀ x ∈ P ++ grd (P ++ [z]) T.reverse, x.2.1 ≠ x.2.2 := fun x hx => h' x (sub x hx)
      rw [grd_app] at hj
      have one : grd (P ++ [z] ++ T.reverse) [y] = if Jn (P ++ [z] ++ T.reverse) y.2.1 y.2.2 then [] else [y] := by
        unfold grd
        split <;> rfl
      rw [one] at hj
      split at hj
      · rw [List.append_nil] at hj
        exact ih rfl h' hj
      · rename_i hno
        have hy : y.2.1 ≠ y.2.2 := h y (by simp)
        have hG2 : ∀ x ∈ P ++ grd (P ++ [z]) T.reverse ++ [y], x.2.1 ≠ x.2.2 := fun x hx => by
          rcases List.mem_append.mp hx with hx | hx
          · exact hG x hx
          · obtain rfl : x = y := by simpa using hx
            exact hy
        rw [← List.append_assoc] at hj
        have up : ∀ {a b}, Jn (P ++ grd (P ++ [z]) T.reverse) a b → Jn (P ++ [z] ++ T.reverse) a b := fun k => k.map fun a b q => by
          obtain ⟨x, h1, h2⟩ := (adj_iff hG).mp q
          exact .adj ((adj_iff h').mpr ⟨x, sub x h1, h2⟩)
        have ed : Jn (P ++ [z] ++ T.reverse) z.2.1 z.2.2 := .adj ((adj_iff h').mpr ⟨z, by simp, .inl ⟨rfl, rfl⟩⟩)
        rcases (Jn.snoc hG2).mp hj with k | ⟨k1, k2⟩ | ⟨k1, k2⟩
        · exact ih rfl h' k
        · exact absurd ((((up k1).symm h').trans ed).trans ((up k2).symm h')) hno
        · exact absurd (((up k2).trans (ed.symm h')).trans (up k1)) hno
  exact rev S.reverse (by simp)
end

/-! ### pairs that join all parts -/
abbrev Pr := Str × Str
def pD (p : Pr) : D := .tup [.str p.1, .str p.2]
def jl (js : List Pr) : List Ln := js.map fun p => (("" : Str), p.1, p.2)
theorem jl_app (a b : List Pr) : jl (a ++ b) = jl a ++ jl b := List.map_append
theorem jl_len (a : List Pr) : (jl a).length = a.length := List.length_map ..
def PrOk (ys : List Str) (js : List Pr) : Prop := ∀ p ∈ js, p.1 ∈ ys ∧ p.2 ∈ ys ∧ p.1 ≠ p.2
theorem jl_ok {ys : List Str} {js : List Pr} (h : PrOk ys js) : ∀ y ∈ jl js, y.2.1 ∈ ys ∧ y.2.2 ∈ ys ∧ y.2.1 ≠ y.2.2 := fun y hy => by
  obtain ⟨p, hp, rfl⟩ := List.mem_map.mp hy
  exact h p hp
theorem and_jl {ys : List Str} {zs : List Ln} {js : List Pr} (hz : ∀ y ∈ zs, y.2.1 ∈ ys ∧ y.2.2 ∈ ys ∧ y.2.1 ≠ y.2.2) (h : PrOk ys js) : ∀ y ∈ zs ++ jl js, y.2.1 ∈ ys ∧ y.2.2 ∈ ys ∧ y.2.1 ≠ y.2.2 := fun y hy => by
  rcases List.mem_append.mp hy with hy | hy
  · exact hz y hy
  · exact jl_ok h y hy
def Gd (ys : List Str) (zs : List Ln) (js : List Pr) : Prop := PrOk ys js ∧ js.length = (pts ys zs).length - 1 ∧ (pts ys (zs ++ jl js)).length ≤ 1
section
open Classical
noncomputable def gdB (ys : List Str) (zs : List Ln) (js : List Pr) : Bool := decide (Gd ys zs js)
theorem gdB_yes {ys : List Str} {zs : List Ln} {js : List Pr} (h : Gd ys zs js) : gdB ys zs js = true := by
  unfold gdB
  exact decide_eq_true h
theorem gdB_no {ys : List Str} {zs : List Ln} {js : List Pr} (h : ¬ Gd ys zs js) : gdB ys zs js = false := by
  unfold gdB
  exact decide_eq_false h
end
theorem pts_pos {ys : List Str} {zs : List Ln} (hs : ys.Pairwise leS) (hn : ys.Nodup) (hz : ∀ y ∈ zs, y.2.1 ∈ ys ∧ y.2.2 ∈ ys ∧ y.2.1 ≠ y.2.2) {h : Str} (hh : h ∈ ys) : 0 < (pts ys zs).length := by
  obtain ⟨t, h1, h2, _⟩ := least_ex (fun y hy => (hz y hy).2.2) hs hn (fun a b k => adj_in hz a b k) hh
  exact List.length_pos_of_mem (pts_mem.mpr ⟨t, h1, h2, rfl⟩)
/-- as many pairs as are wanted: they join all, if and only if each joins two parts -/
theorem gd_frs {ys : List Str} {zs : List Ln} (hs : ys.Pairwise leS) (hn : ys.Nodup) (hz : ∀ y ∈ zs, y.2.1 ∈ ys ∧ y.2.2 ∈ ys ∧ y.2.1 ≠ y.2.2) {js : List Pr} (hp : PrOk ys js) (hl : js.length = (pts ys zs).length - 1) : Gd ys zs js ↔ Frs zs (jl js) := by
  have h1 := pts_grd hs hn (jl js) zs (and_jl hz hp)
  have h2 := (grd_sub zs (jl js)).length_le
  rw [jl_len] at h2
  rw [← frs_len, jl_len]
  constructor
  · rintro ⟨_, _, h3⟩
    by_cases h4 : js = []
    · subst h4
      rw [show (([] : List Pr)).length = 0 from rfl] at *
      omega
    · obtain ⟨p, hp2⟩ := List.exists_mem_of_ne_nil _ h4
      have := pts_pos hs hn hz (hp p hp2).1
      omega
  · intro h3
    exact ⟨hp, hl, by omega⟩
theorem Gd.congr {ys ys' : List Str} {zs zs' : List Ln} {js js' : List Pr} (hy : ∀ t, t ∈ ys ↔ t ∈ ys') (hm : ∀ p, p ∈ js ↔ p ∈ js') (hl : js.length = js'.length) (h1 : (pts ys zs).length = (pts ys' zs').length) (h2 : (pts ys (zs ++ jl js)).length = (pts ys' (zs' ++ jl js')).length) : Gd ys zs js ↔ Gd ys' zs' js' := by
  unfold Gd PrOk
  simp only [hy, hm]
  rw [hl, h1, h2]
theorem jl_mem {js js' : List Pr} (hm : ∀ p, p ∈ js ↔ p ∈ js') (y : Ln) : y ∈ jl js ↔ y ∈ jl js' := by
  unfold jl
  simp only [List.mem_map, hm]
theorem adj_app {zs : List Ln} {us : List Ln} {a b : Str} : Adj (zs ++ us) a b ↔ Adj zs a b ∨ Adj us a b := by
  unfold Adj nbs
  simp only [List.flatMap_append, List.mem_append]
  exact ⟨fun ⟨n, h⟩ => h.elim (fun h => .inl ⟨n, h⟩) fun h => .inr ⟨n, h⟩, fun h => h.elim (fun ⟨n, h⟩ => ⟨n, .inl h⟩) fun ⟨n, h⟩ => ⟨n, .inr h⟩⟩
theorem jn_app {zs zs' us us' : List Ln} (h1 : ∀ a b, Adj zs a b ↔ Adj zs' a b) (h2 : ∀ a b, Adj us a b ↔ Adj us' a b) (a b : Str) : Jn (zs ++ us) a b ↔ Jn (zs' ++ us') a b := Jn.congr fun a b => by rw [adj_app, adj_app, h1, h2]
theorem adj_permZ {zs ls : List Ln} (hp : zs.Perm ls) (a b : Str) : Adj zs a b ↔ Adj ls a b := by
  unfold Adj nbs
  simp only [List.mem_flatMap]
  exact ⟨fun ⟨n, z, h, k⟩ => ⟨n, z, hp.subset h, k⟩, fun ⟨n, z, h, k⟩ => ⟨n, z, hp.symm.subset h, k⟩⟩
theorem gd_zs {ys : List Str} {zs ls : List Ln} {js : List Pr} (hp : zs.Perm ls) : Gd ys zs js ↔ Gd ys ls js :=
  Gd.congr (fun _ => Iff.rfl) (fun _ => Iff.rfl) rfl (by rw [pts_congr fun a b => Jn.congr (adj_permZ hp) (a := a) (b := b)]) (by rw [pts_congr fun a b => jn_app (adj_permZ hp) (fun _ _ => Iff.rfl) a b])
theorem gd_js {ys : List Str} {zs : List Ln} {js js' : List Pr} (hp : js.Perm js') : Gd ys zs js ↔ Gd ys zs js' :=
  Gd.congr (fun _ => Iff.rfl) (fun _ => hp.mem_iff) hp.length_eq rfl (by rw [pts_congr (zs := zs ++ jl js) (zs' := zs ++ jl js') fun a b => jn_app (fun _ _ => Iff.rfl) (adj_permZ (zs := jl js) (ls := jl js') (hp.map _)) a b])
/-- pairs of neighbours -/
def cj : List Str → List Pr
  | a :: b :: r => (a, b) :: cj (b :: r)
  | _ => []
theorem cj_len : ∀ xs : List Str, (cj xs).length = xs.length - 1
  | [] => rfl
  | [_] => rfl
  | a :: b :: r => by
    show (cj (b :: r)).length + 1 = _
    rw [cj_len]
    rfl
theorem cj_get : ∀ {xs : List Str} {k : Nat} {a b : Str}, xs[k]? = some a → xs[k + 1]? = some b → (cj xs)[k]? = some (a, b)
  | [], _, _, _, h, _ => by simp at h
  | [x], k, _, _, _, h2 => by simp at h2
  | x :: y :: r, 0, a, b, h1, h2 => by
    have e1 : x = a := by simpa using h1
    have e2 : y = b := by simpa using h2
    rw [← e1, ← e2]
    rfl
  | x :: y :: r, k + 1, a, b, h1, h2 => by
    show (cj (y :: r))[k]? = _
    exact cj_get (xs := y :: r) (by simpa using h1) (by simpa using h2)
theorem cj_mem : ∀ {xs : List Str} {p : Pr}, p ∈ cj xs → p.1 ∈ xs ∧ p.2 ∈ xs
  | [], _, h => by simp [cj] at h
  | [_], _, h => by simp [cj] at h
  | x :: y :: r, p, h => by
    rcases List.mem_cons.mp h with rfl | h
    · exact ⟨by simp, by simp⟩
    · obtain ⟨h1, h2⟩ := cj_mem h
      exact ⟨List.mem_cons_of_mem _ h1, List.mem_cons_of_mem _ h2⟩
theorem cj_ne : ∀ {xs : List Str}, xs.Nodup → ∀ p ∈ cj xs, p.1 ≠ p.2
  | [], _, _, h => by simp [cj] at h
  | [_], _, _, h => by simp [cj] at h
  | x :: y :: r, hn, p, h => by
    rcases List.mem_cons.mp h with rfl | h
    · exact fun e => (List.nodup_cons.mp hn).1 (by rw [show x = y from e]; simp)
    · exact cj_ne (List.nodup_cons.mp hn).2 p h
theorem cj_jn {P : List Ln} : ∀ {xs : List Str}, (∀ p ∈ cj xs, Jn P p.1 p.2) → (∀ a b, Jn P a b → Jn P b a) → ∀ a ∈ xs, ∀ b ∈ xs, Jn P a b
  | [], _, _, _, h, _, _ => by simp at h
  | [x], _, _, a, ha, b, hb => by
    have e1 : a = x := by simpa using ha
    have e2 : b = x := by simpa using hb
    rw [e1, e2]
    exact .refl
  | x :: y :: r, h, hs, a, ha, b, hb => by
    have h1 : Jn P x y := h (x, y) (List.mem_cons_self ..)
    have ih := cj_jn (xs := y :: r) (fun p hp => h p (List.mem_cons_of_mem _ hp)) hs
    rcases List.mem_cons.mp ha with ea | ha
    · rcases List.mem_cons.mp hb with eb | hb
      · rw [ea, eb]
        exact .refl
      · rw [ea]
        exact h1.trans (ih y (by simp) b hb)
    · rcases List.mem_cons.mp hb with eb | hb
      · rw [eb]
        exact (ih a ha y (by simp)).trans (hs _ _ h1)
      · exact ih a ha b hb
/-- the heads, each joined to the next one -/
theorem cj_gd {ys : List Str} {zs : List Ln} (hs : ys.Pairwise leS) (hn : ys.Nodup) (hz : ∀ y ∈ zs, y.2.1 ∈ ys ∧ y.2.2 ∈ ys ∧ y.2.1 ≠ y.2.2) : Gd ys zs (cj (hds ys zs)) := by
  have hok : PrOk ys (cj (hds ys zs)) := fun p hp => by
    obtain ⟨h1, h2⟩ := cj_mem hp
    exact ⟨(hds_mem.mp h1).1, (hds_mem.mp h2).1, cj_ne (hds_nd hn) p hp⟩
  have ha := and_jl hz hok
  have hne : ∀ y ∈ zs ++ jl (cj (hds ys zs)), y.2.1 ≠ y.2.2 := fun y hy => (ha y hy).2.2
  refine ⟨hok, by rw [cj_len, pts_hds, List.length_map], ?_⟩
  have hz0 : ∀ y ∈ zs, y.2.1 ≠ y.2.2 := fun y hy => (hz y hy).2.2
  have all : ∀ a ∈ ys, ∀ b ∈ ys, Jn (zs ++ jl (cj (hds ys zs))) a b := by
    have up : ∀ {a b}, Jn zs a b → Jn (zs ++ jl (cj (hds ys zs))) a b := fun k => k.map fun a b q => .adj (adj_app.mpr (.inl q))
    have hd := cj_jn (P := zs ++ jl (cj (hds ys zs))) (xs := hds ys zs) (fun p hp => .adj ((adj_iff hne).mpr ⟨((""), p.1, p.2), List.mem_append_right _ (List.mem_map.mpr ⟨p, hp, rfl⟩), .inl ⟨rfl, rfl⟩⟩)) (fun a b k => k.symm hne)
    intro a ha2 b hb2
    obtain ⟨t, t1, t2, t3⟩ := least_ex hz0 hs hn (fun a b k => adj_in hz a b k) ha2
    obtain ⟨u, u1, u2, u3⟩ := least_ex hz0 hs hn (fun a b k => adj_in hz a b k) hb2
    exact ((up t3).trans (hd t (hds_mem.mpr ⟨t1, t2⟩) u (hds_mem.mpr ⟨u1, u2⟩))).trans ((up u3).symm hne)
  rw [pts_hds, List.length_map]
  have hnd := hds_nd (zs := zs ++ jl (cj (hds ys zs))) hn
  have one : ∀ a ∈ hds ys (zs ++ jl (cj (hds ys zs))), ∀ b ∈ hds ys (zs ++ jl (cj (hds ys zs))), a = b := fun a ha2 b hb2 => by
    obtain ⟨a1, a2⟩ := hds_mem.mp ha2
    obtain ⟨b1, b2⟩ := hds_mem.mp hb2
    exact lst_one hne a1 b1 a2 b2 (all a a1 b b1)
  generalize hds ys (zs ++ jl (cj (hds ys zs))) = xs at hnd one
  match xs with
  | [] => exact Nat.zero_le _
  | [_] => exact Nat.le_refl _
  | x :: y :: r =>
    have := one x (by simp) y (by simp)
    exact absurd this (fun e => (List.nodup_cons.mp hnd).1 (by rw [e]; simp))
/-- one pair fewer: one part more -/
theorem gd_tail {ys : List Str} {zs : List Ln} (hs : ys.Pairwise leS) (hn : ys.Nodup) (hz : ∀ y ∈ zs, y.2.1 ∈ ys ∧ y.2.2 ∈ ys ∧ y.2.1 ≠ y.2.2) {p : Pr} {js : List Pr} (h : Gd ys zs (p :: js)) : (pts ys (zs ++ jl js)).length = 2 := by
  have hf := (gd_frs hs hn hz h.1 h.2.1).mp h
  have h2 := (gd_js (List.perm_append_comm (l₁ := js) (l₂ := [p]))).mpr h
  have hok : PrOk ys js := fun q hq => h.1 q (List.mem_cons_of_mem _ hq)
  have hf2 := (gd_frs hs hn hz h2.1 h2.2.1).mp h2
  rw [jl_app, frs_app] at hf2
  have h3 := pts_grd hs hn (jl js) zs (and_jl hz hok)
  rw [(frs_len _ _).mpr hf2.1, jl_len] at h3
  have h4 := h.2.1
  rw [List.length_cons] at h4
  omega
theorem gd_one {ys : List Str} {zs : List Ln} (hs : ys.Pairwise leS) (hn : ys.Nodup) (hz : ∀ y ∈ zs, y.2.1 ∈ ys ∧ y.2.2 ∈ ys ∧ y.2.1 ≠ y.2.2) {js : List Pr} (h : Gd ys zs js) : (pts ys (zs ++ jl js)).length = if 0 < ys.length then 1 else 0 := by
  have h1 := h.2.2
  split
  · rename_i h2
    have := pts_pos hs hn (and_jl hz h.1) (List.getElem_mem h2)
    omega
  · have := pts_len (ys := ys) (zs := zs ++ jl js)
    omega

/-! ### names merged -/
def sp_merge_names : Sp2 := fun ds μ Q _ => ∃ (p : Addr) (f : Str → Str) (hs : List Str) (a b : Str), ds = [.ref p, .str a, .str b] ∧ μ p = some (.dct (hs.map (kM f))) ∧ a ∈ hs ∧ b ∈ hs ∧ hs.Nodup ∧ hs.length ≤ 1000 ∧ (f a = f b → Q (.bl false) μ) ∧ (f a ≠ f b → ∀ g : Str → Str, (∀ h ∈ hs, g h = mrg f a b h) → Q (.bl true) (mup μ p (.dct (hs.map (kM g)))))
theorem len_merge_names (ds : List D) (μ : Mu) (Q : QE) (ex : Ex2) (h : sp_merge_names ds μ Q ex) : ds.length = 3 := by
  obtain ⟨p, f, hs, a, b, rfl, _⟩ := h
  rfl
theorem keyV_kM (f : Str → Str) (hs : List Str) : (hs.map (kM f)).map (fun kv => keyV kv.1) = hs.map D.str := by
  rw [List.map_map]
  rfl
theorem pure_merge_names (ds : List D) (μ : Mu) (Q : QE) (ex : Ex2) (h : sp_merge_names ds μ Q ex) : t_merge_names sp_ordered (ends Q) (startD ["a", "b", "c", "d", "e", "f"] ds) μ := by
  obtain ⟨p, f, hs, a, b, rfl, hp, ha, hb, hn, hl, q1, q2⟩ := h
  have hsz := sizeLine_eq
  unfold t_merge_names
  show jSeq _ _ (ends Q) [some _, some _, some _, none, none, none] μ
  walk_at "js"
  refine x_ixDA (.m hp) (kk := ks a) rfl (kM_val f ha) ?_
  walk_at "js"
  refine x_ixDA (.m hp) (kk := ks b) rfl (kM_val f hb) ?_
  walk_at "js"
  refine ⟨f a, f b, rfl, .of ?_⟩
  obtain ⟨kp, gn, he, hkg, hkm⟩ : ∃ kp gn : Str, ordD (f a) (f b) = .tup [.str kp, .str gn] ∧ ((kp = f a ∧ gn = f b) ∨ (kp = f b ∧ gn = f a)) ∧ kp = mn (f a) (f b) := by
    unfold ordD mn ltS
    by_cases h : (f b).cps.toList < (f a).cps.toList
    · exact ⟨f b, f a, by rw [decide_eq_true h, if_pos rfl], .inr ⟨rfl, rfl⟩, by rw [if_pos h]⟩
    · exact ⟨f a, f b, by rw [decide_eq_false h, if_neg Bool.false_ne_true], .inl ⟨rfl, rfl⟩, by rw [if_neg h]⟩
  rw [he]
  walk_at "js"
  refine w_ifd (fun h => ?_) (fun h => ?_)
  · walk_at "js"
    refine .of (q1 ?_)
    rcases hkg with ⟨k1, k2⟩ | ⟨k1, k2⟩
    · rw [← k1, ← k2, h]
    · rw [← k1, ← k2, h]
  · have hne : f a ≠ f b := fun e => h (by
      rcases hkg with ⟨k1, k2⟩ | ⟨k1, k2⟩
      · rw [k1, k2, e]
      · rw [k1, k2, e])
    have hm : ∀ t, mrg f a b t = if f t = gn then kp else f t := fun t => by
      unfold mrg
      rw [← hkm]
      rcases hkg with ⟨k1, k2⟩ | ⟨k1, k2⟩
      · rw [k2]
        by_cases h1 : f t = f b
        · rw [if_pos (.inr h1), if_pos h1]
        · rw [if_neg h1]
          by_cases h2 : f t = f a
          · rw [if_pos (.inl h2), k1, h2]
          · rw [if_neg (fun k => k.elim h2 h1)]
      · rw [k2]
        by_cases h1 : f t = f a
        · rw [if_pos (.inl h1), if_pos h1]
        · rw [if_neg h1]
          by_cases h2 : f t = f b
          · rw [if_pos (.inr h2), k1, h2]
          · rw [if_neg (fun k => k.elim h1 h2)]
    walk_at "js"
    rw [keyV_kM]
    refine .f ?_
    walk_at "js"
    rw [← mup_self hp]
    refine loop_Z hs D.str (fun dn δ μ' => ∃ (g : Str → Str) (o5 : Option D), (∀ t ∈ dn, g t = mrg f a b t) ∧ (∀ t ∈ hs, t ∉ dn → g t = f t) ∧ μ' = mup μ p (.dct (hs.map (kM g))) ∧ δ = [some (.ref p), some (.str a), some (.str b), some (.str kp), some (.str gn), o5]) (fun _ _ _ _ => trivial) ?_ ?_ _ _ ⟨f, _, by simp, fun _ _ _ => rfl, rfl, rfl⟩
    · rintro dn t rs δ μ' hst ⟨g, o5, g1, g2, rfl, rfl⟩ QN hN
      have ht : t ∈ hs := by rw [hst]; simp
      have htd : t ∉ dn := fun hm => by
        rw [hst] at hn
        exact (List.nodup_append.mp hn).2.2 t hm t (List.mem_cons_self ..) rfl
      have gt := g2 t ht htd
      walk_at "js"
      refine x_ixDA (.m mup_same) (kk := ks t) rfl (kM_val g ht) ?_
      walk_at "js"
      rw [gt]
      refine w_ifd (fun h1 => ?_) (fun h1 => ?_)
      · walk_at "js"
        refine x_setD mup_same (kk := ks t) rfl (by rw [List.length_map]; omega) ?_
        rw [mup_mup, kM_put ht]
        refine hN _ _ ⟨_, _, fun u hu => ?_, fun u hu hun => ?_, rfl, rfl⟩
        · show (if u = t then kp else g u) = _
          rcases List.mem_append.mp hu with hu | hu
          · rw [if_neg (fun e : u = t => htd (e ▸ hu))]
            exact g1 u hu
          · obtain rfl : u = t := by simpa using hu
            rw [if_pos rfl, hm, if_pos h1]
        · show (if u = t then kp else g u) = _
          rw [if_neg (fun e : u = t => hun (by rw [e]; simp))]
          exact g2 u hu fun k => hun (List.mem_append_left _ k)
      · walk_at "js"
        refine hN _ _ ⟨g, _, fun u hu => ?_, fun u hu hun => g2 u hu fun k => hun (List.mem_append_left _ k), rfl, rfl⟩
        rcases List.mem_append.mp hu with hu | hu
        · exact g1 u hu
        · obtain rfl : u = t := by simpa using hu
          rw [hm, if_neg h1, gt]
    · rintro δ μ' ⟨g, o5, g1, g2, rfl, rfl⟩
      walk_at "js"
      exact .of (q2 hne g g1)

/-! ### the program's judge of pairs -/
theorem x_lenA {v : D} {xs : List D} {μ : Mu} {Q : QE} (hv : SeqAt μ v xs) (h : Q (.int xs.length) μ) : len1 [v] μ Q := by
  rcases hv with (rfl | ⟨a, rfl, ha⟩) | rfl
  · exact x_lenL h
  · exact x_lenM ha h
  · exact x_lenR h
section
open Classical
/-- the head of a house's part -/
noncomputable def ldr (ys : List Str) (zs : List Ln) (h : Str) : Str := ((hds ys zs).find? fun x => decide (Jn zs x h)).getD h
theorem ldr_of {ys : List Str} {zs : List Ln} (hz : ∀ z ∈ zs, z.2.1 ≠ z.2.2) {x h : Str} (hx : x ∈ hds ys zs) (hj : Jn zs x h) : ldr ys zs h = x := by
  unfold ldr
  cases e : (hds ys zs).find? fun x => decide (Jn zs x h) with
  | none => exact absurd (decide_eq_true hj) (List.find?_eq_none.mp e x hx)
  | some y =>
    have h1 := List.mem_of_find?_eq_some e
    have h2 : Jn zs y h := of_decide_eq_true (List.find?_some (p := fun x => decide (Jn zs x h)) e)
    obtain ⟨a1, a2⟩ := hds_mem.mp hx
    obtain ⟨b1, b2⟩ := hds_mem.mp h1
    exact lst_one hz b1 a1 b2 a2 (h2.trans (hj.symm hz))
end
/-- the houses, part by part -/
noncomputable def flt (ys : List Str) (zs : List Ln) : List Str := (hds ys zs).flatMap (prt ys zs)
structure Flt (ys : List Str) (zs : List Ln) : Prop where
  mem : ∀ t, t ∈ flt ys zs ↔ t ∈ ys
  nd : (flt ys zs).Nodup
  mrk : Mk (flt ys zs) zs (ldr ys zs)
theorem flt_ok {ys : List Str} {zs : List Ln} (hs : ys.Pairwise leS) (hn : ys.Nodup) (hz : ∀ y ∈ zs, y.2.1 ∈ ys ∧ y.2.2 ∈ ys ∧ y.2.1 ≠ y.2.2) : Flt ys zs := by
  have hz0 : ∀ y ∈ zs, y.2.1 ≠ y.2.2 := fun y hy => (hz y hy).2.2
  have hin : ∀ a b, Adj zs a b → b ∈ ys := adj_in hz
  have hm : ∀ t, t ∈ flt ys zs ↔ t ∈ ys := fun t => by
    unfold flt
    rw [List.mem_flatMap]
    constructor
    · rintro ⟨x, _, h⟩
      exact (mem_prt.mp h).1
    · intro ht
      obtain ⟨x, x1, x2, x3⟩ := least_ex hz0 hs hn hin ht
      exact ⟨x, hds_mem.mpr ⟨x1, x2⟩, mem_prt.mpr ⟨ht, x3.symm hz0⟩⟩
  have hld : ∀ t ∈ ys, ldr ys zs t ∈ hds ys zs ∧ Jn zs t (ldr ys zs t) := fun t ht => by
    obtain ⟨x, x1, x2, x3⟩ := least_ex hz0 hs hn hin ht
    rw [ldr_of hz0 (hds_mem.mpr ⟨x1, x2⟩) (x3.symm hz0)]
    exact ⟨hds_mem.mpr ⟨x1, x2⟩, x3⟩
  refine ⟨hm, ?_, fun h hh => ?_, fun h hh => ?_, fun h hh t ht => ?_, fun h hh => (hld h ((hm h).mp hh)).2⟩
  · unfold flt
    have hnd := hds_nd (zs := zs) hn
    refine List.pairwise_flatMap.mpr ⟨fun x _ => prt_nd hn, ?_⟩
    refine List.Pairwise.imp_of_mem (fun {a b} ha hb hne => ?_) hnd
    intro t t1 t' t2 e
    subst e
    obtain ⟨a1, a2⟩ := hds_mem.mp ha
    obtain ⟨b1, b2⟩ := hds_mem.mp hb
    exact hne (lst_one hz0 a1 b1 a2 b2 ((mem_prt.mp t1).2.trans ((mem_prt.mp t2).2.symm hz0)))
  · exact (hm _).mpr (hds_mem.mp (hld h ((hm h).mp hh)).1).1
  · obtain ⟨h1, h2⟩ := hld h ((hm h).mp hh)
    exact fun hlt => (hds_mem.mp h1).2 h ((hm h).mp hh) (h2.symm hz0) hlt
  · obtain ⟨h1, h2⟩ := hld h ((hm h).mp hh)
    obtain ⟨t1, t2⟩ := hld t ((hm t).mp ht)
    constructor
    · intro e
      rw [e] at h2
      exact h2.trans (t2.symm hz0)
    · intro hj
      exact (ldr_of hz0 h1 ((h2.symm hz0).trans hj)).symm
theorem zip_prs {ν : Mu} {f : Str → List Str} : ∀ {as : List Addr} {xs : List Str}, as.map ν = xs.map (fun x => some (MO.lst ((f x).map D.str))) → ∃ W : List (Addr × Str), W.map (·.1) = as ∧ W.map (·.2) = xs ∧ ∀ q ∈ W, ν q.1 = some (MO.lst ((f q.2).map D.str))
  | [], [], _ => ⟨[], rfl, rfl, by simp⟩
  | [], _ :: _, h => by simp at h
  | _ :: _, [], h => by simp at h
  | a :: as, x :: xs, h => by
    rw [List.map_cons, List.map_cons] at h
    injection h with h1 h2
    obtain ⟨W, e1, e2, e3⟩ := zip_prs (f := f) h2
    exact ⟨(a, x) :: W, by rw [List.map_cons, e1], by rw [List.map_cons, e2], fun q hq => by
      rcases List.mem_cons.mp hq with rfl | hq
      · exact h1
      · exact e3 q hq⟩
def sp_is_joins : Sp2 := fun ds μ Q _ => ∃ (ys : List Str) (ps zs : List Ln) (v : D) (js : List Pr), ds = [.ins "Web" (webF ys ps zs), v] ∧ WebOk ys ps zs ∧ SeqAt μ v (js.map pD) ∧ js.length ≤ 1000 ∧ Q (.bl (gdB ys zs js)) μ
theorem len_is_joins (ds : List D) (μ : Mu) (Q : QE) (ex : Ex2) (h : sp_is_joins ds μ Q ex) : ds.length = 2 := by
  obtain ⟨ys, ps, zs, v, js, rfl, _⟩ := h
  rfl
theorem max_sub (n : Nat) : (if (n : Int) - 1 > 0 then (n : Int) - 1 else 0) = ((n - 1 : Nat) : Int) := by
  split <;> omega
theorem jl_one (dn : List Pr) (p : Pr) : jl (dn ++ [p]) = jl dn ++ [(("" : Str), p.1, p.2)] := by
  rw [jl_app]
  rfl
theorem pure_is_joins (ds : List D) (μ : Mu) (Q : QE) (ex : Ex2) (h : sp_is_joins ds μ Q ex) : t_is_joins sp_find_parts sp_merge_names (ends Q) (startD ["a", "b", "c", "d", "e", "f", "g", "h"] ds) μ := by
  obtain ⟨ys, ps, zs, v, js, rfl, hw, hv, hjl, q⟩ := h
  have hsz := sizeLine_eq
  have hyl := hw.len
  have hz := lnok_near (hw.ok.perm hw.perm)
  have hz0 : ∀ y ∈ zs, y.2.1 ≠ y.2.2 := fun y hy => (hz y hy).2.2
  have F := flt_ok hw.srt hw.nd hz
  have hfl : (flt ys zs).length ≤ 32 := by
    have := nodup_sub F.nd fun t ht => (F.mem t).mp ht
    omega
  unfold t_is_joins
  show jSeq _ _ (ends Q) [some _, some _, none, none, none, none, none, none] μ
  walk_at "js"
  refine ⟨ys, ps, zs, rfl, hw, fun as ν P => .of ?_⟩
  have hvn := seq_le hv P.le
  have no : ∀ (E : Ends2) δ μ', E.rt = Upd Q → Le μ μ' → ¬ Gd ys zs js → jRet (jC (.bl false)) E δ μ' := fun E δ μ' hE hle h => by
    show E.rt (.bl false) _
    rw [hE]
    rw [gdB_no h] at q
    exact .drop hle q
  have hal := P.len
  walk_at "js"
  refine x_lenA hvn ?_
  walk_at "js"
  rw [List.length_map, List.length_map, hal, max_sub]
  refine w_ifn (fun hne => no _ _ _ rfl P.le fun k => hne (by rw [k.2.1])) (fun heq => ?_)
  have hlen : js.length = (pts ys zs).length - 1 := by omega
  walk_at "js"
  refine .m fun p hp => ?_
  walk_at "js"
  have hpa : ∀ a ∈ as, a ≠ p := fun a ha e => by
    obtain ⟨o, ho⟩ := P.some ha
    rw [e, hp] at ho
    cases ho
  have P_at := P.at_
  rw [pts_hds, List.map_map] at P_at
  obtain ⟨W, w1, w2, w3⟩ := zip_prs (f := prt ys zs) P_at
  have eW : as.map D.ref = W.map fun q => D.ref q.1 := by rw [← w1, List.map_map]; rfl
  rw [eW]
  refine loop_Z W (fun q => D.ref q.1) (fun dn δ μ' => ∃ o4 o7, μ' = mup ν p (.dct (((dn.map (·.2)).flatMap (prt ys zs)).map (kM (ldr ys zs)))) ∧ δ = [some (.ins "Web" (webF ys ps zs)), some v, some (.lst (W.map fun q => D.ref q.1)), some (.ref p), o4, none, none, o7]) (fun _ _ _ _ => trivial) ?_ ?_ _ _ ⟨_, _, rfl, rfl⟩
  · rintro dn ⟨a, x⟩ rs δ μ' hW ⟨o4, o7, rfl, rfl⟩ QN hN
    have hq := w3 (a, x) (by rw [hW]; simp)
    have ha : a ≠ p := hpa a (by rw [← w1]; exact List.mem_map.mpr ⟨(a, x), by rw [hW]; simp, rfl⟩)
    have hx : x ∈ hds ys zs := by rw [← w2]; exact List.mem_map.mpr ⟨(a, x), by rw [hW]; simp, rfl⟩
    obtain ⟨hx1, hx2⟩ := hds_mem.mp hx
    obtain ⟨r0, er0⟩ := prt_head hw.srt hx1 hx2
    have hq : ν a = some (.lst ((prt ys zs x).map D.str)) := hq
    have hqa : ∀ o, (mup ν p o) a = some (.lst ((prt ys zs x).map D.str)) := fun o => (mup_ne ha).trans hq
    show kName 4 (.ref a) _ _ _
    walk_at "js"
    refine ⟨_, hqa _, ?_⟩
    refine loop_Z (prt ys zs x) D.str (fun d2 δ μ' => ∃ o7, μ' = mup ν p (.dct (((dn.map (·.2)).flatMap (prt ys zs) ++ d2).map (kM (ldr ys zs)))) ∧ δ = [some (.ins "Web" (webF ys ps zs)), some v, some (.lst (W.map fun q => D.ref q.1)), some (.ref p), some (.ref a), none, none, o7]) (fun d2 δ μ' h => by obtain ⟨_, rfl, _⟩ := h; exact hqa _) ?_ ?_ _ _ ⟨_, by rw [List.append_nil], rfl⟩
    · rintro d2 t r2 δ μ' h2 ⟨o7, rfl, rfl⟩ QN2 hN2
      have ht : t ∈ prt ys zs x := by rw [h2]; simp
      have hld : ldr ys zs t = x := ldr_of hz0 hx (mem_prt.mp ht).2
      have hnew : t ∉ (dn.map (·.2)).flatMap (prt ys zs) ++ d2 := fun hm => by
        have hnd := F.nd
        unfold flt at hnd
        rw [← w2, hW, List.map_append, List.map_cons, List.flatMap_append, List.flatMap_cons, h2] at hnd
        have e : (dn.map (·.2)).flatMap (prt ys zs) ++ (d2 ++ t :: r2 ++ (rs.map (·.2)).flatMap (prt ys zs)) = ((dn.map (·.2)).flatMap (prt ys zs) ++ d2) ++ (t :: (r2 ++ (rs.map (·.2)).flatMap (prt ys zs))) := by simp
        rw [e] at hnd
        exact (List.nodup_append.mp hnd).2.2 t hm t (List.mem_cons_self ..) rfl
      have hcl : ((dn.map (·.2)).flatMap (prt ys zs) ++ d2).length ≤ 32 := by
        have hsub : ∀ u ∈ (dn.map (·.2)).flatMap (prt ys zs) ++ d2, u ∈ ys := fun u hu => by
          rcases List.mem_append.mp hu with hu | hu
          · obtain ⟨y, _, hy⟩ := List.mem_flatMap.mp hu
            exact (mem_prt.mp hy).1
          · exact (mem_prt.mp (show u ∈ prt ys zs x by rw [h2]; exact List.mem_append_left _ hu)).1
        have hnd2 : ((dn.map (·.2)).flatMap (prt ys zs) ++ d2).Nodup := by
          have hnd := F.nd
          unfold flt at hnd
          rw [← w2, hW, List.map_append, List.map_cons, List.flatMap_append, List.flatMap_cons, h2] at hnd
          have e : (dn.map (·.2)).flatMap (prt ys zs) ++ (d2 ++ t :: r2 ++ (rs.map (·.2)).flatMap (prt ys zs)) = ((dn.map (·.2)).flatMap (prt ys zs) ++ d2) ++ (t :: (r2 ++ (rs.map (·.2)).flatMap (prt ys zs))) := by simp
          rw [e] at hnd
          exact (List.nodup_append.mp hnd).1
        have := nodup_sub hnd2 hsub
        omega
      walk_at "js"
      have e0 : ((prt ys zs x).map D.str)[0]? = some (.str x) := by rw [er0]; rfl
      refine x_ixM (hqa _) (atI_nat (j := 0) e0) ?_
      walk_at "js"
      refine x_setD mup_same (kk := ks t) rfl (by rw [List.length_map]; omega) ?_
      rw [mup_mup, ← hld, kM_new hnew, List.append_assoc]
      exact hN2 _ _ ⟨_, rfl, rfl⟩
    · rintro δ μ' ⟨o7, rfl, rfl⟩
      exact hN _ _ ⟨_, _, by rw [show (dn ++ [(a, x)]).map (·.2) = dn.map (·.2) ++ [x] from by simp, List.flatMap_append, show [x].flatMap (prt ys zs) = prt ys zs x from by simp], rfl⟩
  · rintro δ μ' ⟨o4, o7, rfl, rfl⟩
    rw [w2, show (hds ys zs).flatMap (prt ys zs) = flt ys zs from rfl]
    have hGs : ∀ o, SeqAt (mup ν p o) v (js.map pD) := fun o => seq_on hvn hp
    have hle : ∀ o, Le μ (mup ν p o) := fun o => le_on P.le (le_none P.le hp)
    walk_at "js"
    refine seq_walkA (hGs _) fun G hG => ?_
    refine loop_Z js pD (fun dn δ μ' => ∃ (g : Str → Str) (o5 o6 : Option D), Mk (flt ys zs) (zs ++ jl dn) g ∧ PrOk ys dn ∧ Frs zs (jl dn) ∧ μ' = mup ν p (.dct ((flt ys zs).map (kM g))) ∧ δ = [some (.ins "Web" (webF ys ps zs)), some v, some (.lst (W.map fun q => D.ref q.1)), some (.ref p), o4, o5, o6, o7]) ?_ ?_ ?_ _ _ ⟨ldr ys zs, _, _, by rw [show jl [] = [] from rfl, List.append_nil]; exact F.mrk, by simp [PrOk], trivial, rfl, rfl⟩
    · rintro dn δ μ' ⟨g, o5, o6, _, _, _, rfl, rfl⟩
      exact hG _ (hGs _)
    · rintro dn ⟨a, b⟩ rs δ μ' hjs ⟨g, o5, o6, M, hpo, hfr, rfl, rfl⟩ QN hN
      have hpm : ((a, b) : Pr) ∈ js := by rw [hjs]; simp
      show kTup 2 _ (.tup [.str a, .str b]) _ _ _
      walk_at "js"
      refine x_ninK (.m mup_same) (k := ks a) rfl ?_
      rw [kys_val (kM_keys g (flt ys zs))]
      refine ⟨_, rfl, ?_⟩
      refine w_ifn (fun h => w_true (no _ _ _ rfl (hle _) fun k => h ((F.mem a).mpr (k.1 _ hpm).1))) (fun ha => ?_)
      walk_at "js"
      refine x_ninK (.m mup_same) (k := ks b) rfl ?_
      rw [kys_val (kM_keys g (flt ys zs))]
      refine ⟨_, rfl, ?_⟩
      refine w_ifn (fun h => no _ _ _ rfl (hle _) fun k => h ((F.mem b).mpr (k.1 _ hpm).2.1)) (fun hb => ?_)
      walk_at "js"
      refine ⟨p, g, flt ys zs, a, b, rfl, mup_same, ha, hb, F.nd, by omega, fun e => .of ?_, fun hne g2 hg2 => .of ?_⟩
      · refine ⟨false, rfl, ?_⟩
        rw [if_pos (by decide)]
        refine no _ _ _ rfl (hle _) fun k => ?_
        have kf := (gd_frs hw.srt hw.nd hz k.1 hlen).mp k
        rw [hjs, jl_app, frs_app] at kf
        exact kf.2.1 ((M.iff a ha b hb).mp e)
      · refine ⟨true, rfl, ?_⟩
        rw [if_neg (by decide), mup_mup]
        walk_at "js"
        have hab : a ≠ b := fun e => hne (by rw [e])
        have hok2 : PrOk ys (dn ++ [(a, b)]) := fun q hq => by
          rcases List.mem_append.mp hq with hq | hq
          · exact hpo q hq
          · obtain rfl : q = (a, b) := by simpa using hq
            exact ⟨(F.mem a).mp ha, (F.mem b).mp hb, hab⟩
        have e2 : zs ++ jl (dn ++ [(a, b)]) = zs ++ jl dn ++ [(("" : Str), a, b)] := by rw [jl_one, List.append_assoc]
        have hal2 := and_jl hz hok2
        refine hN _ _ ⟨g2, _, _, ?_, hok2, ?_, rfl, rfl⟩
        · rw [e2]
          refine (M.step (z := (("" : Str), a, b)) (fun y hy => (hal2 y (by rw [e2]; exact hy)).2.2) ha hb).congr fun h hh => (hg2 h hh).symm
        · rw [jl_one, frs_app]
          exact ⟨hfr, fun k => hne ((M.iff a ha b hb).mpr k), trivial⟩
    · rintro δ μ' ⟨g, o5, o6, M, hpo, hfr, rfl, rfl⟩
      walk_at "js"
      rw [gdB_yes ((gd_frs hw.srt hw.nd hz hpo hlen).mpr hfr)] at q
      exact .drop (hle _) q

/-! ### the law's judge of pairs; the least pairs -/
def sp_l_is_joins : Sp2 := fun ds μ Q _ => ∃ (ys hs : List Str) (ls : List Ln) (js : List Pr), ds = [.lst (hs.map D.str), .lst (ls.map lnD), .lst (js.map pD)] ∧ ys.Perm hs ∧ ys.Pairwise leS ∧ hs.Nodup ∧ hs.length < 64 ∧ ls.length ≤ 500 ∧ (∀ z ∈ ls, z.2.1 ∈ hs ∧ z.2.2 ∈ hs ∧ z.2.1 ≠ z.2.2) ∧ js.length ≤ 400 ∧ Q (.bl (gdB ys ls js)) μ
theorem len_l_is_joins (ds : List D) (μ : Mu) (Q : QE) (ex : Ex2) (h : sp_l_is_joins ds μ Q ex) : ds.length = 3 := by
  obtain ⟨ys, hs, ls, js, rfl, _⟩ := h
  rfl
theorem pure_l_is_joins (ds : List D) (μ : Mu) (Q : QE) (ex : Ex2) (h : sp_l_is_joins ds μ Q ex) : t_l_is_joins sp_l_parts (ends Q) (startD ["a", "b", "c", "d"] ds) μ := by
  obtain ⟨ys, hs, ls, js, rfl, hp, hs1, hn, hl, hll, hz, hjl, q⟩ := h
  have hsz := sizeLine_eq
  have nof : ¬ Gd ys ls js → Q (.bl false) μ := fun h => by rw [gdB_no h] at q; exact q
  have no : ∀ (E : Ends2) δ, E.rt = Upd Q → ¬ Gd ys ls js → jRet (jC (.bl false)) E δ μ := fun E δ hE h => by
    show E.rt (.bl false) _
    rw [hE]
    exact .of (nof h)
  unfold t_l_is_joins
  show jSeq _ _ (ends Q) [some _, some _, some _, none] μ
  walk_at "js"
  refine loop_Z js pD (fun dn δ μ' => ∃ o3, PrOk hs dn ∧ μ' = μ ∧ δ = [some (.lst (hs.map D.str)), some (.lst (ls.map lnD)), some (.lst (js.map pD)), o3]) (fun _ _ _ _ => trivial) ?_ ?_ _ _ ⟨_, by simp [PrOk], rfl, rfl⟩
  · rintro dn ⟨a, b⟩ rs δ μ' hjs ⟨o3, hpo, rfl, rfl⟩ QN hN
    have hpm : ((a, b) : Pr) ∈ js := by rw [hjs]; simp
    show kName 3 (.tup [.str a, .str b]) _ _ _
    walk_at "js"
    refine w_ifd (fun h => w_true (no _ _ rfl fun k => (k.1 _ hpm).2.2 h)) (fun hne => ?_)
    walk_at "js"
    refine x_ninA .f all_any_str ?_
    rw [any_isS]
    refine ⟨_, rfl, ?_⟩
    refine w_ifn (fun h => w_true (no _ _ rfl fun k => h (hp.mem_iff.mp (k.1 _ hpm).1))) (fun ha => ?_)
    walk_at "js"
    refine x_ninA .f all_any_str ?_
    rw [any_isS]
    refine ⟨_, rfl, ?_⟩
    refine w_ifn (fun h => no _ _ rfl fun k => h (hp.mem_iff.mp (k.1 _ hpm).2.1)) (fun hb => ?_)
    walk_at "js"
    refine hN _ _ ⟨_, fun q hq => ?_, rfl, rfl⟩
    rcases List.mem_append.mp hq with hq | hq
    · exact hpo q hq
    · obtain rfl : q = (a, b) := by simpa using hq
      exact ⟨ha, hb, hne⟩
  · rintro δ μ' ⟨o3, hpo, rfl, rfl⟩
    have hpo2 : PrOk ys js := fun p h => ⟨hp.mem_iff.mpr (hpo p h).1, hp.mem_iff.mpr (hpo p h).2.1, (hpo p h).2.2⟩
    walk_at "js"
    refine ⟨ys, hs, ls, rfl, hp, hs1, hn, hl, by omega, hz, .of ?_⟩
    walk_at "js"
    rw [List.length_map, List.length_map, max_sub]
    refine w_ifn (fun hne => no _ _ rfl fun k => hne (by rw [k.2.1])) (fun heq => ?_)
    have hlen : js.length = (pts ys ls).length - 1 := by omega
    walk_at "js"
    refine lc_mapZ js pD (fun p => lnD ("", p.1, p.2)) (by omega) (fun p hp Y hY => ?_) (.f ?_)
    · show kName 3 (.tup [.str p.1, .str p.2]) _ _ _
      walk_at "js"
      exact hY
    rw [show js.map (fun p => lnD ("", p.1, p.2)) = (jl js).map lnD by unfold jl; rw [List.map_map]; rfl]
    refine x_addL (by rw [List.length_map, List.length_map, jl_len]; omega) (.f ?_)
    rw [← List.map_append]
    walk_at "js"
    refine ⟨ys, hs, ls ++ jl js, rfl, hp, hs1, hn, hl, by rw [List.length_append, jl_len]; omega, fun z hz' => by
      have := and_jl (ys := hs) hz hpo z hz'
      exact this, .of ?_⟩
    walk_at "js"
    rw [List.length_map]
    by_cases h1 : (pts ys (ls ++ jl js)).length ≤ 1
    · rw [gdB_yes ⟨hpo2, hlen, h1⟩] at q
      rw [decide_eq_true (by omega)]
      exact .of q
    · rw [decide_eq_false (by omega)]
      exact .of (nof fun k => h1 k.2.2)
theorem cut_last (xs : List D) : J.cutD xs none (some (-1)) = xs.take (xs.length - 1) := by
  unfold J.cutD
  have e0 : HT.sIx xs.length 0 none = 0 := rfl
  have e1 : HT.sIx xs.length xs.length (some (-1)) = xs.length - 1 := by
    show HT.sIx xs.length xs.length (some (-1)) = _
    unfold HT.sIx
    dsimp only
    split <;> omega
  rw [e0, e1, List.drop_zero, Nat.sub_zero]
/-- a comprehension over enumerate(list) -/
theorem lc_enum {α : Type} {tg : TG2} {te : TE2} {δ0 : Sg} {k0 : List D → Mu → Prop} (xs : List α) (g : α → D) (P : Nat → List D → Mu → Prop)
    (hs : ∀ k x acc μ, xs[k]? = some x → P k acc μ → ∀ N : D → Mu → Prop, (∀ y μ', P (k + 1) (acc ++ [y]) μ' → N y μ') → tg (.tup [.int (k : Nat), g x]) δ0 μ fun δ1 μ1 => te δ1 μ1 N) (hl : xs.length < sizeLine)
    (hd : ∀ acc μ, P xs.length acc μ → k0 acc μ) (μ : Mu) (p : P 0 [] μ) : jLcl tg jYes te δ0 (fun _ => True) k0 (enumD 0 (xs.map g)) [] μ := by
  refine lc_inv (fun r acc μ => ∃ dn us : List α, xs = dn ++ us ∧ r = enumD dn.length (us.map g) ∧ acc.length = dn.length ∧ P dn.length acc μ) (fun _ _ _ _ => trivial) ?_ ?_ _ _ _ ⟨[], xs, rfl, rfl, rfl, p⟩
  · rintro x r acc μ ⟨dn, us, h1, h2, h3, h4⟩ N hN
    cases us with
    | nil => cases h2
    | cons u us =>
    rw [List.map_cons] at h2
    unfold enumD at h2
    injection h2 with e4 e5
    subst e4 e5
    have hlen := congrArg List.length h1
    rw [List.length_append, List.length_cons] at hlen
    have h := hs dn.length u acc μ (by rw [h1, List.getElem?_append_right (Nat.le_refl _), Nat.sub_self]; rfl) h4 (fun y μ3 => acc.length < sizeLine ∧ N (acc ++ [y]) μ3) fun y μ' q => ⟨by omega, hN _ _ ⟨dn ++ [u], us, by rw [h1]; simp, by rw [List.length_append]; rfl, by rw [List.length_append, List.length_append, h3]; rfl, by rw [List.length_append]; exact q⟩⟩
    exact h
  · rintro acc μ ⟨dn, us, h1, h2, h3, h4⟩
    cases us with
    | cons u us =>
      rw [List.map_cons] at h2
      unfold enumD at h2
      cases h2
    | nil =>
      rw [List.append_nil] at h1
      subst h1
      exact hd acc μ h4
def sp_least_joins : Sp2 := fun ds μ Q _ => ∃ (ys : List Str) (ps zs : List Ln), ds = [.ins "Web" (webF ys ps zs)] ∧ WebOk ys ps zs ∧ NewL ((cj (hds ys zs)).map pD) μ Q
theorem len_least_joins (ds : List D) (μ : Mu) (Q : QE) (ex : Ex2) (h : sp_least_joins ds μ Q ex) : ds.length = 1 := by
  obtain ⟨ys, ps, zs, rfl, _⟩ := h
  rfl
theorem pure_least_joins (ds : List D) (μ : Mu) (Q : QE) (ex : Ex2) (h : sp_least_joins ds μ Q ex) : t_least_joins sp_find_parts (ends Q) (startD ["a", "b", "c", "d", "e"] ds) μ := by
  obtain ⟨ys, ps, zs, rfl, hw, q⟩ := h
  have hsz := sizeLine_eq
  have hyl := hw.len
  have hz := lnok_near (hw.ok.perm hw.perm)
  unfold t_least_joins
  show jSeq _ _ (ends Q) [some _, none, none, none, none] μ
  walk_at "js"
  refine ⟨ys, ps, zs, rfl, hw, fun as ν P => .of ?_⟩
  have hal := P.len
  have hpl := pts_len (ys := ys) (zs := zs)
  have P_at := P.at_
  rw [pts_hds, List.map_map] at P_at
  obtain ⟨W, w1, w2, w3⟩ := zip_prs (f := prt ys zs) P_at
  have hWl : W.length = as.length := by rw [← w1, List.length_map]
  have eW : as.map D.ref = W.map fun q => D.ref q.1 := by rw [← w1, List.map_map]; rfl
  rw [eW]
  walk_at "js"
  refine lc_mapZ W (fun q => D.ref q.1) (fun q => .str q.2) (by omega) (fun q hq Y hY => ?_) (.f ?_)
  · have hx : q.2 ∈ hds ys zs := by rw [← w2]; exact List.mem_map_of_mem hq
    obtain ⟨hx1, hx2⟩ := hds_mem.mp hx
    obtain ⟨r0, er0⟩ := prt_head hw.srt hx1 hx2
    have e0 : ((prt ys zs q.2).map D.str)[0]? = some (.str q.2) := by rw [er0]; rfl
    walk_at "js"
    refine x_ixM (w3 q hq) (atI_nat (j := 0) e0) ?_
    walk_at "js"
    exact hY
  rw [show W.map (fun q => D.str q.2) = (hds ys zs).map D.str by rw [← w2, List.map_map]; rfl]
  have hdl : (hds ys zs).length ≤ ys.length := hds_len
  generalize hds ys zs = xs at q hdl
  walk_at "js"
  refine x_slL (.f ?_)
  rw [cut_last, List.length_map, ← List.map_take]
  walk_at "js"
  refine ⟨_, rfl, ?_⟩
  have hcl := cj_len xs
  have htl : (xs.take (xs.length - 1)).length = xs.length - 1 := by rw [List.length_take]; omega
  refine lc_enum (xs.take (xs.length - 1)) D.str (fun k acc μ' => μ' = ν ∧ acc = ((cj xs).take k).map pD) (fun k x acc μ' hk ⟨e1, e2⟩ N hN => ?_) (by omega) (fun acc μ' ⟨e1, e2⟩ => ?_) _ ⟨rfl, rfl⟩
  · subst e1 e2
    obtain ⟨hk1, hk2⟩ := List.getElem?_eq_some_iff.mp hk
    have hk3 : k < xs.length - 1 := by omega
    have hx : xs[k]? = some x := by
      rw [List.getElem_take] at hk2
      rw [List.getElem?_eq_getElem (by omega), hk2]
    have hy : xs[k + 1]? = some (xs[k + 1]'(by omega)) := List.getElem?_eq_getElem (by omega)
    have hc := cj_get hx hy
    generalize xs[k + 1]'(by omega) = y at hy hc
    have ey : atI (xs.map D.str) ((k : Int) + 1) = some (.str y) := by
      rw [show (k : Int) + 1 = ((k + 1 : Nat) : Int) by omega]
      exact atI_some (by rw [List.getElem?_map, hy]; rfl)
    show kTup 2 (kCons (kName 3) (kCons (kName 4) kNil)) (.tup [.int k, .str x]) [some _, some _, none, none, none] _ _
    walk_at "js"
    refine x_ixL ey ?_
    walk_at "js"
    exact hN _ _ ⟨rfl, by rw [List.take_succ, hc, List.map_append]; rfl⟩
  · subst e1 e2
    rw [htl, ← hcl, List.take_length]
    exact newL_le P.le q

/-! ### a web without a line -/
def dueL (ns : List Str) (w : D) : Er := if nmD w = true then (if strOf w ∈ ns then none else noLineE w) else badE w
def sp_Web_without_line : Sp2 := fun ds μ Q ex => ∃ (ys : List Str) (ps zs : List Ln) (l : D), ds = [.ins "Web" (webF ys ps zs), l] ∧ WebOk ys ps zs ∧ Vl l ∧
  (dueL (ps.map (·.1)) l = none → ∀ zs', WebOk ys (less ps l) zs' → Q (.ins "Web" (webF ys (less ps l) zs')) μ) ∧ erX (dueL (ps.map (·.1)) l) ex μ
theorem len_Web_without_line (ds : List D) (μ : Mu) (Q : QE) (ex : Ex2) (h : sp_Web_without_line ds μ Q ex) : ds.length = 2 := by
  obtain ⟨ys, ps, zs, l, rfl, _⟩ := h
  rfl
theorem drop_pr (ps : List Ln) (l : Str) : dropKD (ps.map prD) (ks l) = (less ps (.str l)).map prD := by
  rw [dropKD_map]
  unfold less
  congr 1
  refine List.filter_congr fun z _ => ?_
  show decide (ks z.1 ≠ ks l) = !decide (z.1 = l)
  by_cases h : z.1 = l
  · rw [decide_eq_true h, decide_eq_false (by rw [h]; exact fun k => k rfl)]
    rfl
  · rw [decide_eq_false h]
    exact decide_eq_true (fun k => h (Sum.inr.inj k))
theorem pure_Web_without_line (ds : List D) (μ : Mu) (Q : QE) (ex : Ex2) (h : sp_Web_without_line ds μ Q ex) : t_Web_without_line sp_check_name sp_checked_web (fun _ => ex) (ends Q) (startD ["a", "b", "c"] ds) μ := by
  obtain ⟨ys, ps, zs, l, rfl, hw, v1, q1, q2⟩ := h
  have hsz := sizeLine_eq
  unfold dueL at q1 q2
  unfold t_Web_without_line
  show jSeq _ _ (ends Q) [some _, some _, none] μ
  obtain ⟨t, ht⟩ := v1.1.ty
  walk_at "js"
  refine ⟨l, t, rfl, ht μ, v1.2, fun hl => .of ?_, fun hl => ?_⟩
  · rw [if_pos hl] at q1 q2
    obtain ⟨l, rfl⟩ := nmD_strT hl
    have q1 : (if l ∈ ps.map (·.1) then none else noLineE (.str l)) = none → _ := q1
    have q2 : erX (if l ∈ ps.map (·.1) then none else noLineE (.str l)) ex μ := q2
    walk_at "js"
    refine x_ninK .f (k := ks l) rfl ?_
    rw [kys_val (prD_keys ps)]
    refine ⟨_, rfl, ?_⟩
    refine w_ifn (fun h => ?_) (fun h => ?_)
    · rw [if_neg h] at q2
      walk_at "js"
      exact ⟨rfl, .of q2⟩
    · have q1 := q1 (if_pos h)
      walk_at "js"
      refine x_dictDA .f (.m fun p hp => ?_)
      walk_at "js"
      rename_i N hN
      refine ⟨p, _, ks l, rfl, rfl, mup_same, ?_, ?_⟩
      · obtain ⟨z, hz, rfl⟩ := List.mem_map.mp h
        rw [prD_val hw.ok.nd hz]
        rfl
      rw [mup_mup, drop_pr]
      refine x_nx hN ?_
      refine Gst.dct (i := 2) rfl mup_same ?_
      rw [mdel_mup hp]
      dsimp only [List.set]
      walk_at "js"
      have ho2 : LnOk ys (less ps (.str l)) := hw.ok.sublist (List.filter_sublist ..)
      exact ⟨ys, _, rfl, hw.nd, hw.len, ho2, fun zs' hz hs => .of (.of (q1 zs' ⟨hw.nd, hw.len, hw.srt, ho2, hz, hs⟩))⟩
  · rw [hl, if_neg Bool.false_ne_true] at q2
    exact q2
/-! ### a name that is free -/
def uw (k : Nat) : Str := ("n" : Str) ++ (toString (k : Int) : String)
def uws : List Str := (List.range 97).map uw
theorem uws_nm : ∀ w ∈ uws, nmS w := by
  have h : (uws.all fun w => nmL w.cps.toList) = true := by decide +kernel
  exact fun w hw => List.all_eq_true.mp h w hw
theorem uws_nd : uws.Nodup := by
  have h : decide uws.Nodup = true := by decide +kernel
  exact of_decide_eq_true h
def sp_l_unused : Sp2 := fun ds μ Q _ => ∃ ls : List Ln, ds = [.lst (ls.map lnD)] ∧ ls.length ≤ 96 ∧ ∀ w : Str, nmS w → w ∉ ls.map (·.1) → Q (.str w) μ
theorem len_l_unused (ds : List D) (μ : Mu) (Q : QE) (ex : Ex2) (h : sp_l_unused ds μ Q ex) : ds.length = 1 := by
  obtain ⟨ls, rfl, _⟩ := h
  rfl
theorem pure_l_unused (ds : List D) (μ : Mu) (Q : QE) (ex : Ex2) (h : sp_l_unused ds μ Q ex) : t_l_unused (ends Q) (startD ["a", "b", "c", "d", "e"] ds) μ := by
  obtain ⟨ls, rfl, hl, q⟩ := h
  have hsz := sizeLine_eq
  unfold t_l_unused
  show jSeq _ _ (ends Q) [some _, none, none, none, none] μ
  walk_at "js"
  refine lc_mapZ ls lnD (fun z => .str z.1) (by omega) (fun z hz Y hY => ?_) (.f ?_)
  · show kName 2 (.tup [.str z.1, .str z.2.1, .str z.2.2]) _ _ _
    walk_at "js"
    exact hY
  rw [show ls.map (fun z => D.str z.1) = (ls.map (·.1)).map D.str by rw [List.map_map]; rfl]
  have hul : (ls.map (·.1)).length ≤ 96 := by rw [List.length_map]; exact hl
  generalize ls.map (·.1) = us at hul q
  walk_at "js"
  refine ⟨_, rfl, by unfold rngOk; omega, ?_⟩
  rw [show Int.toNat 97 = 97 from rfl]
  refine lc_rng (fun k acc μ' => μ' = μ ∧ acc = ((List.range k).map uw).map D.str) (fun k acc μ' hk ⟨e1, e2⟩ N hN => ?_) (by omega) (fun acc μ' _ ⟨e1, e2⟩ => ?_) _ ⟨rfl, rfl⟩
  · subst e1 e2
    walk_at "js"
    refine x_str (by
      rw [Int.natAbs_natCast]
      exact Nat.lt_trans (Nat.lt_of_le_of_lt (Nat.log2_le_self k) hk) (by decide)) ?_
    have hw1 : (uw k).length ≤ 12 := (nmS_len (uws_nm (uw k) (List.mem_map_of_mem (List.mem_range.mpr hk)))).2
    have hw2 : ("n" : Str).length + ((toString (k : Int) : String) : Str).length = (uw k).length := by
      unfold uw
      show _ = (_ ++ _ : Array Nat).size
      rw [Array.size_append]
      rfl
    refine x_addS (by rw [hw2]; omega) ?_
    refine hN _ _ ⟨rfl, ?_⟩
    rw [List.range_succ, List.map_append, List.map_append]
    rfl
  · subst e1 e2
    refine .f ?_
    show iSeq' (.lst (uws.map D.str)) _ _
    have hfree : ∃ w ∈ uws, w ∉ us := by
      refine Classical.byContradiction fun hno => ?_
      have := nodup_sub (m := us) uws_nd fun w hw => Classical.byContradiction fun hn => hno ⟨w, hw, hn⟩
      rw [show uws.length = 97 from by unfold uws; rw [List.length_map, List.length_range]] at this
      omega
    have hnm := uws_nm
    have hul2 : uws.length = 97 := by unfold uws; rw [List.length_map, List.length_range]
    generalize uws = vs at hfree hnm hul2
    refine lc_fmZ vs D.str (fun t => if (!decide (t ∈ us)) = true then some (.str t) else none) (by omega) (fun t ht Y Nn k1 k2 => ?_) (.f ?_)
    · walk_at "js"
      refine x_ninA .f all_any_str ?_
      rw [any_isS]
      refine ⟨_, rfl, ?_⟩
      refine w_ifn (fun h => ?_) (fun h => ?_)
      · walk_at "js"
        exact k1 _ (by rw [decide_eq_false h]; rfl)
      · exact k2 (by rw [decide_eq_true h]; rfl)
    rw [fm_filter2 (fun t => !decide (t ∈ us)) D.str vs]
    have hmem : ∀ t ∈ vs.filter (fun t => !decide (t ∈ us)), t ∈ vs ∧ t ∉ us := fun t h => by
      obtain ⟨h1, h2⟩ := List.mem_filter.mp h
      refine ⟨h1, fun h3 => ?_⟩
      rw [decide_eq_true h3] at h2
      cases h2
    obtain ⟨w0, hw0, hw1⟩ := hfree
    have hpos : w0 ∈ vs.filter (fun t => !decide (t ∈ us)) := List.mem_filter.mpr ⟨hw0, by rw [decide_eq_false hw1]; rfl⟩
    generalize vs.filter (fun t => !decide (t ∈ us)) = fs at hmem hpos
    cases fs with
    | nil => cases hpos
    | cons w r =>
      obtain ⟨h1, h2⟩ := hmem w (List.mem_cons_self ..)
      walk_at "js"
      refine x_ixL (atI_nat (j := 0) (show ((w :: r).map D.str)[0]? = some (.str w) from rfl)) ?_
      exact .of (q w (hnm w h1) h2)
/-! ### a web with pairs joined -/
theorem adj_one {n : Str} {a b : Str} (h : a ≠ b) (x y : Str) : Adj [(n, a, b)] x y ↔ (x = a ∧ y = b) ∨ (x = b ∧ y = a) := by
  have := adj_snoc (zs := []) (z := (n, a, b)) (fun y hy => by
    obtain rfl : y = (n, a, b) := by simpa using hy
    exact h) (a := x) (b := y)
  rw [List.nil_append] at this
  rw [this]
  constructor
  · rintro (⟨_, k⟩ | k)
    · simp [nbs] at k
    · exact k
  · exact .inr
theorem adj_mk {w a b : Str} (h : a ≠ b) (x y : Str) : Adj [mkLn (.str w) (.str a) (.str b)] x y ↔ Adj [(("" : Str), a, b)] x y := by
  rw [mkLn_str]
  split
  · rw [adj_one h.symm, adj_one h]
    exact or_comm
  · rw [adj_one h, adj_one h]
theorem put_none {ys ns : List Str} {w a b : Str} (hw : nmS w) (ha : nmS a) (hb : nmS b) (h1 : a ∈ ys) (h2 : b ∈ ys) (h3 : a ≠ b) (h4 : w ∉ ns) (h5 : ns.length < 96) : duePut ys ns (.str w) (.str a) (.str b) = none := by
  rw [duePut_str hw ha hb]
  unfold duePutS
  rw [if_pos h1, if_pos h2, if_neg h3, if_neg h4, if_neg (by omega)]
def sp_l_joined_up : Sp2 := fun ds μ Q _ => ∃ (ys : List Str) (ps zs : List Ln) (v : D) (js : List Pr), ds = [.ins "Web" (webF ys ps zs), v] ∧ WebOk ys ps zs ∧ (∀ y ∈ ys, nmS y) ∧ SeqAt μ v (js.map pD) ∧ PrOk ys js ∧ ps.length + js.length ≤ 96 ∧ Q (.int (pts ys (zs ++ jl js)).length) μ
theorem len_l_joined_up (ds : List D) (μ : Mu) (Q : QE) (ex : Ex2) (h : sp_l_joined_up ds μ Q ex) : ds.length = 2 := by
  obtain ⟨ys, ps, zs, v, js, rfl, _⟩ := h
  rfl
theorem pure_l_joined_up (ds : List D) (μ : Mu) (Q : QE) (ex : Ex2) (h : sp_l_joined_up ds μ Q ex) : t_l_joined_up sp_Web_with_line sp_find_parts sp_l_unused sp_Web_lines (ends Q) (startD ["a", "b", "c", "d"] ds) μ := by
  obtain ⟨ys, ps, zs, v, js, rfl, hw, hnm, hv, hpo, hl, q⟩ := h
  have hsz := sizeLine_eq
  unfold t_l_joined_up
  show jSeq _ _ (ends Q) [some _, some _, none, none] μ
  walk_at "js"
  refine seq_walkA hv fun G hG => ?_
  refine loop_Z js pD (fun dn δ μ' => ∃ (p2 z2 : List Ln) (o3 : Option D), WebOk ys p2 z2 ∧ p2.length = ps.length + dn.length ∧ (∀ a b, Adj z2 a b ↔ Adj (zs ++ jl dn) a b) ∧ μ' = μ ∧ δ = [some (.ins "Web" (webF ys ps zs)), some v, some (.ins "Web" (webF ys p2 z2)), o3]) ?_ ?_ ?_ _ _ ⟨ps, zs, _, hw, rfl, fun a b => by rw [show jl [] = [] from rfl, List.append_nil], rfl, rfl⟩
  · rintro dn δ μ' ⟨p2, z2, o3, _, _, _, rfl, rfl⟩
    exact hG _ hv
  · rintro dn ⟨a, b⟩ rs δ μ' hjs ⟨p2, z2, o3, hw2, hl2, hadj, rfl, rfl⟩ QN hN
    have hlen := congrArg List.length hjs
    rw [List.length_append, List.length_cons] at hlen
    obtain ⟨ha, hb, hne⟩ := hpo (a, b) (by rw [hjs]; simp)
    have hzl := hw2.perm.length_eq
    show kName 3 (.tup [.str a, .str b]) _ _ _
    walk_at "js"
    refine ⟨⟨_, .inl rfl, rfl⟩, ?_⟩
    walk_at "js"
    refine ⟨⟨_, .inl rfl⟩, ys, p2, z2, rfl, .of ?_⟩
    walk_at "js"
    refine ⟨z2, rfl, by omega, fun w hw3 hw4 => .of ?_⟩
    walk_at "js"
    have hput : duePut ys (p2.map (·.1)) (.str w) (.str a) (.str b) = none := put_none hw3 (hnm a ha) (hnm b hb) ha hb hne (fun k => hw4 ((hw2.perm.map _).mem_iff.mpr k)) (by rw [List.length_map]; omega)
    refine ⟨ys, p2, z2, .str w, .str a, .str b, rfl, hw2, vl_str (by have := nmS_len hw3; omega), vl_str (by have := nmS_len (hnm a ha); omega), vl_str (by have := nmS_len (hnm b hb); omega), fun _ z3 hw5 => .of ?_, by rw [hput]; trivial⟩
    walk_at "js"
    refine hN _ _ ⟨_, z3, _, hw5, by rw [List.length_append, List.length_append, hl2]; simp [Nat.add_assoc], fun x y => ?_, rfl, rfl⟩
    rw [adj_permZ hw5.perm, adj_app, jl_one, ← List.append_assoc, adj_app, ← hadj, adj_permZ hw2.perm, adj_mk hne]
  · rintro δ μ' ⟨p2, z2, o3, hw2, hl2, hadj, rfl, rfl⟩
    walk_at "js"
    refine ⟨ys, p2, z2, rfl, hw2, fun as ν P => .of ?_⟩
    walk_at "js"
    rw [List.length_map, P.len, pts_congr fun a b => Jn.congr hadj (a := a) (b := b)]
    exact .drop P.le q

/-! ### pairs drawn -/
theorem loop_rng1 {g : TG2} {tb : TS2} {G : Mu → Prop} {D1 : Ends2} {n : Nat} (P : Nat → Sg → Mu → Prop) (hG : ∀ k δ μ, P k δ μ → G μ)
    (hs : ∀ k δ μ, k < n → P k δ μ → ∀ QN : Sg → Mu → Prop, (∀ δ' μ', P (k + 1) δ' μ' → QN δ' μ') → g (.int ((k + 1 : Nat) : Int)) δ μ fun δ' μ' => tb { nx := QN, rt := D1.rt, bk := D1.nx, ct := QN } δ' μ')
    (hd : ∀ δ μ, P n δ μ → D1.nx δ μ) (δ : Sg) (μ : Mu) (p : P 0 δ μ) : jLoop g tb G D1 (rngD 1 n) δ μ := by
  rw [show rngD 1 n = (List.range n).map (fun i : Nat => D.int ((i + 1 : Nat) : Int)) from List.map_congr_left fun i _ => by show D.int (1 + (i : Int)) = _; rw [Int.add_comm]; rfl]
  refine loop_Z (List.range n) (fun i : Nat => D.int ((i + 1 : Nat) : Int)) (fun dn δ μ => P dn.length δ μ ∧ ∃ k, dn = List.range k) (fun _ _ _ h => hG _ _ _ h.1) ?_ (fun δ μ h => ?_) δ μ ⟨p, 0, rfl⟩
  · rintro dn k rs δ μ hr ⟨h, j, rfl⟩ QN hN
    have hlen := congrArg List.length hr
    simp only [List.length_append, List.length_cons, List.length_range] at hlen
    have hk : k = j := by
      have h1 : (List.range n)[j]? = some k := by
        rw [hr, List.getElem?_append_right (by rw [List.length_range]; exact Nat.le_refl _), List.length_range, Nat.sub_self]
        rfl
      rw [List.getElem?_range (by omega)] at h1
      exact (Option.some.inj h1).symm
    subst hk
    rw [List.length_range] at h
    exact hs k δ μ (by omega) h QN fun δ' μ' p' => hN _ _ ⟨by rw [List.length_append, List.length_range]; exact p', k + 1, by rw [List.range_succ]⟩
  · have := h.1
    rw [List.length_range] at this
    exact hd _ _ this
theorem perm_map {α β : Type} [DecidableEq α] {f : α → β} : ∀ {ys : List β} {l : List α}, ys.Perm (l.map f) → ∃ l' : List α, l'.Perm l ∧ ys = l'.map f
  | [], l, h => by
    have e := h.symm.eq_nil
    rw [List.map_eq_nil_iff] at e
    exact ⟨[], by rw [e], rfl⟩
  | y :: r, l, h => by
    obtain ⟨a, ha, rfl⟩ := List.mem_map.mp (h.subset (List.mem_cons_self ..))
    have h1 := List.perm_cons_erase ha
    have h2 : r.Perm ((l.erase a).map f) := (h.trans (h1.map f)).cons_inv
    obtain ⟨l', e1, e2⟩ := perm_map h2
    exact ⟨a :: l', (e1.cons a).trans h1.symm, by rw [List.map_cons, e2]⟩
noncomputable def partD (ys : List Str) (zs : List Ln) (x : Str) : D := .lst ((prt ys zs x).map D.str)
def sp_l_any_joins : Sp2 := fun ds μ Q _ => ∃ (s : Addr) (m : MO) (ys : List Str) (ls : List Ln), ds = [.ref s, .lst ((pts ys ls).map fun p => .lst (p.map D.str))] ∧ μ s = some m ∧ IsSt m ∧ ys.Pairwise leS ∧ ys.Nodup ∧ ys.length ≤ 32 ∧ (∀ z ∈ ls, z.2.1 ∈ ys ∧ z.2.2 ∈ ys ∧ z.2.1 ≠ z.2.2) ∧ ∀ (js : List Pr) (m' : MO), IsSt m' → Gd ys ls js → NewL (js.map pD) (mup μ s m') Q
theorem len_l_any_joins (ds : List D) (μ : Mu) (Q : QE) (ex : Ex2) (h : sp_l_any_joins ds μ Q ex) : ds.length = 2 := by
  obtain ⟨s, m, ys, ls, rfl, _⟩ := h
  rfl
theorem prt_pos {ys : List Str} {zs : List Ln} {x : Str} (h : x ∈ ys) : 0 < (prt ys zs x).length := List.length_pos_of_mem (mem_prt.mpr ⟨h, .refl⟩)
theorem pick_ss {ss : List Str} {i : Int} (h0 : 0 ≤ i) (h1 : (ss.length : Int) < 2 → i = 0) (h2 : (2 : Int) ≤ ss.length → i < ss.length) (hp : 0 < ss.length) : ∃ t ∈ ss, atI (ss.map D.str) i = some (.str t) := by
  obtain ⟨i, rfl⟩ : ∃ k : Nat, i = k := ⟨i.toNat, by omega⟩
  have hi : i < ss.length := by
    by_cases h : (ss.length : Int) < 2
    · have := h1 h
      omega
    · have := h2 (by omega)
      omega
  exact ⟨ss[i], List.getElem_mem hi, atI_some (by rw [List.getElem?_map, List.getElem?_eq_getElem hi]; rfl)⟩
structure Tr (ys : List Str) (ls : List Ln) (R : List Str) (k : Nat) (js : List Pr) : Prop where
  len : js.length = k
  ok : PrOk ys js
  frs : Frs ls (jl js)
  far : ∀ u v, Jn (ls ++ jl js) u v → Jn ls u v ∨ ((∃ x ∈ R.take (k + 1), Jn ls x u) ∧ ∃ x ∈ R.take (k + 1), Jn ls x v)
theorem Tr.step {ys : List Str} {ls : List Ln} {R : List Str} {k : Nat} {js : List Pr} (hz : ∀ y ∈ ls, y.2.1 ∈ ys ∧ y.2.2 ∈ ys ∧ y.2.1 ≠ y.2.2) (T : Tr ys ls R k js) {a b : Str} (ha : a ∈ ys) (hb : b ∈ ys) (hno : ¬ Jn (ls ++ jl js) a b) (pa : ∃ x ∈ R.take (k + 1 + 1), Jn ls x a) (pb : ∃ x ∈ R.take (k + 1 + 1), Jn ls x b) : Tr ys ls R (k + 1) (js ++ [(a, b)]) := by
  have hz0 : ∀ y ∈ ls, y.2.1 ≠ y.2.2 := fun y hy => (hz y hy).2.2
  have hne : a ≠ b := fun e => hno (by rw [e]; exact .refl)
  have hok : PrOk ys (js ++ [(a, b)]) := fun q hq => by
    rcases List.mem_append.mp hq with hq | hq
    · exact T.ok q hq
    · obtain rfl : q = (a, b) := by simpa using hq
      exact ⟨ha, hb, hne⟩
  have e2 : ls ++ jl (js ++ [(a, b)]) = ls ++ jl js ++ [(("" : Str), a, b)] := by rw [jl_one, List.append_assoc]
  have hall := and_jl hz hok
  have hsnoc : ∀ y ∈ ls ++ jl js ++ [(("" : Str), a, b)], y.2.1 ≠ y.2.2 := fun y hy => (hall y (by rw [e2]; exact hy)).2.2
  have hall0 : ∀ y ∈ ls ++ jl js, y.2.1 ≠ y.2.2 := fun y hy => hsnoc y (List.mem_append_left _ hy)
  have up : ∀ {x : Str}, x ∈ R.take (k + 1) → x ∈ R.take (k + 1 + 1) := fun {x} h => by
    rw [List.take_succ]
    exact List.mem_append_left _ h
  have side : ∀ {w c : Str}, (∃ x ∈ R.take (k + 1 + 1), Jn ls x c) → Jn (ls ++ jl js) c w → ∃ x ∈ R.take (k + 1 + 1), Jn ls x w := fun {w c} ⟨x, h1, h2⟩ h3 => by
    rcases T.far _ _ h3 with h | ⟨_, y, h4, h5⟩
    · exact ⟨x, h1, h2.trans h⟩
    · exact ⟨y, up h4, h5⟩
  refine ⟨by rw [List.length_append, T.len]; rfl, hok, ?_, fun u v h => ?_⟩
  · rw [jl_one, frs_app]
    exact ⟨T.frs, hno, trivial⟩
  · rw [e2] at h
    rcases (Jn.snoc hsnoc).mp h with h | ⟨h1, h2⟩ | ⟨h1, h2⟩
    · rcases T.far _ _ h with h | ⟨⟨x, x1, x2⟩, y, y1, y2⟩
      · exact .inl h
      · exact .inr ⟨⟨x, up x1, x2⟩, y, up y1, y2⟩
    · exact .inr ⟨side pa (h1.symm hall0), side pb h2⟩
    · exact .inr ⟨side pb (h1.symm hall0), side pa h2⟩
theorem pure_l_any_joins (ds : List D) (μ : Mu) (Q : QE) (ex : Ex2) (h : sp_l_any_joins ds μ Q ex) : t_l_any_joins sp_l_mixed sp_l_take (ends Q) (startD ["a", "b", "c", "d", "e", "f", "g", "h"] ds) μ := by
  obtain ⟨s, m, ys, ls, rfl, hs0, hm, hs, hn, hyl, hz, q⟩ := h
  have hsz := sizeLine_eq
  have hz0 : ∀ y ∈ ls, y.2.1 ≠ y.2.2 := fun y hy => (hz y hy).2.2
  have hpl := pts_len (ys := ys) (zs := ls)
  unfold t_l_any_joins
  show jSeq _ _ (ends Q) [some _, some _, none, none, none, none, none, none] μ
  walk_at "js"
  refine ⟨s, m, _, _, rfl, hs0, hm, .inl rfl, by rw [List.length_map]; omega, fun Y m1 hY hm1 => .f (.of ?_)⟩
  rw [pts_hds, List.map_map] at hY
  obtain ⟨R, hR, rfl⟩ := perm_map (f := partD ys ls) hY
  have hRl := hR.length_eq
  have hhl := hds_len (ys := ys) (zs := ls)
  walk_at "js"
  refine .m fun p hp => ?_
  have hps : p ≠ s := fun e => by rw [e, mup_same] at hp; cases hp
  have cm : ∀ (m m' : MO) (xs : List D), mup (mup (mup μ s m) p (.lst xs)) s m' = mup (mup μ s m') p (.lst xs) := fun m m' xs => by rw [mup_comm hps, mup_mup]
  have sm : ∀ (m : MO) (xs : List D), (mup (mup μ s m) p (.lst xs)) s = some m := fun m xs => (mup_ne hps.symm).trans mup_same
  walk_at "js"
  have hRh : ∀ x ∈ R, x ∈ hds ys ls := fun x hx => hR.subset hx
  have hRn : R.Nodup := hR.nodup_iff.mpr (hds_nd hn)
  refine ⟨1, _, rfl, by unfold rngOk; omega, by unfold rngOk; rw [List.length_map]; omega, ?_⟩
  rw [List.length_map, show ((R.length : Int) - 1).toNat = R.length - 1 by omega]
  refine loop_rng1 (n := R.length - 1) (fun k δ μ' => ∃ (js : List Pr) (m' : MO) (o4 o5 o6 o7 : Option D), Tr ys ls R k js ∧ IsSt m' ∧ μ' = mup (mup μ s m') p (.lst (js.map pD)) ∧ δ = [some (.ref s), some (.lst ((pts ys ls).map fun p => .lst (p.map D.str))), some (.lst (R.map (partD ys ls))), some (.ref p), o4, o5, o6, o7])
    (fun _ _ _ _ => trivial) ?_ ?_ _ _ ⟨[], m1, _, _, _, _, ⟨rfl, by simp [PrOk], trivial, fun u v h => .inl (by rw [show jl [] = [] from rfl, List.append_nil] at h; exact h)⟩, hm1, rfl, rfl⟩
  · rintro k δ μ' hk ⟨js, m', o4, o5, o6, o7, T, hm', rfl, rfl⟩ QN hN
    walk_at "js"
    refine ⟨s, k + 1, m', rfl, sm _ _, hm', by omega, fun i m2 hm2 a1 a2 a3 => .of ?_⟩
    rw [cm]
    obtain ⟨i, rfl⟩ : ∃ k : Nat, i = k := ⟨i.toNat, by omega⟩
    have hi : i < k + 1 := by
      by_cases h : ((k + 1 : Nat) : Int) < 2
      · have := a2 h
        omega
      · have := a3 (by omega)
        omega
    have hiR : i < R.length := by omega
    have ex : atI (R.map (partD ys ls)) (i : Int) = some (partD ys ls R[i]) := atI_some (by rw [List.getElem?_map, List.getElem?_eq_getElem hiR]; rfl)
    have hxR : R[i] ∈ R := List.getElem_mem hiR
    have hxt : R[i] ∈ R.take (k + 1) := List.mem_take_iff_getElem.mpr ⟨i, by omega, rfl⟩
    have hkR : k + 1 < R.length := by omega
    have ey : atI (R.map (partD ys ls)) ((k + 1 : Nat) : Int) = some (partD ys ls R[k + 1]) := atI_some (by rw [List.getElem?_map, List.getElem?_eq_getElem hkR]; rfl)
    have hyR : R[k + 1] ∈ R := List.getElem_mem hkR
    have hyt : R[k + 1] ∉ R.take (k + 1) := fun hm => by
      obtain ⟨j, hj, e⟩ := List.mem_take_iff_getElem.mp hm
      exact List.pairwise_iff_getElem.mp hRn j (k + 1) (by omega) hkR (by omega) e
    have hyt2 : R[k + 1] ∈ R.take (k + 1 + 1) := List.mem_take_iff_getElem.mpr ⟨k + 1, by omega, rfl⟩
    have up : ∀ {x : Str}, x ∈ R.take (k + 1) → x ∈ R.take (k + 1 + 1) := fun {x} h => by
      rw [List.take_succ]
      exact List.mem_append_left _ h
    generalize R[i] = x at ex hxR hxt
    generalize R[k + 1] = y at ey hyR hyt hyt2
    have hx := hRh x hxR
    have hy := hRh y hyR
    obtain ⟨x1, x2⟩ := hds_mem.mp hx
    obtain ⟨y1, y2⟩ := hds_mem.mp hy
    refine x_ixL ex ?_
    walk_at "js"
    unfold partD
    walk_at "js"
    rw [List.length_map]
    have hxl := prt_len (ys := ys) (zs := ls) (h := x)
    have hyl2 := prt_len (ys := ys) (zs := ls) (h := y)
    refine ⟨s, (prt ys ls x).length, m2, rfl, sm _ _, hm2, by omega, fun i2 m3 hm3 b1 b2 b3 => .of ?_⟩
    rw [cm]
    obtain ⟨a, ha, ea⟩ := pick_ss b1 b2 b3 (prt_pos x1)
    refine x_ixL ea ?_
    walk_at "js"
    refine x_ixL ey ?_
    unfold partD
    walk_at "js"
    refine x_ixL ey ?_
    unfold partD
    walk_at "js"
    rw [List.length_map]
    refine ⟨s, (prt ys ls y).length, m3, rfl, sm _ _, hm3, by omega, fun i3 m4 hm4 c1 c2 c3 => .of ?_⟩
    rw [cm]
    obtain ⟨b, hb, eb⟩ := pick_ss c1 c2 c3 (prt_pos y1)
    refine x_ixL eb ?_
    walk_at "js"
    refine .f ?_
    walk_at "js"
    refine ⟨s, 2, m4, rfl, sm _ _, hm4, by decide, fun i4 m5 hm5 d1 _ d3 => .of ?_⟩
    rw [cm]
    have d3 := d3 (by decide)
    obtain ⟨ha1, ha2⟩ := mem_prt.mp ha
    obtain ⟨hb1, hb2⟩ := mem_prt.mp hb
    have hno : ¬ Jn (ls ++ jl js) a b := fun h => by
      rcases T.far _ _ h with h | ⟨_, w, w1, w2⟩
      · exact hyt (lst_one hz0 x1 y1 x2 y2 ((ha2.trans h).trans (hb2.symm hz0)) ▸ hxt)
      · obtain ⟨v1, v2⟩ := hds_mem.mp (hRh w (List.take_subset _ _ w1))
        exact hyt (lst_one hz0 v1 y1 v2 y2 (w2.trans (hb2.symm hz0)) ▸ w1)
    have hall0 : ∀ y ∈ ls ++ jl js, y.2.1 ≠ y.2.2 := fun y hy => (and_jl hz T.ok y hy).2.2
    have hjl := T.len
    obtain ⟨i4, rfl⟩ : ∃ k : Nat, i4 = k := ⟨i4.toNat, by omega⟩
    match i4, d3 with
    | 0, _ =>
      refine x_ixL (show _ = some (pD (a, b)) from rfl) ?_
      walk_at "js"
      refine x_append mup_same (by rw [List.length_map]; omega) ?_
      rw [mup_mup]
      walk_at "js"
      exact hN _ _ ⟨js ++ [(a, b)], m5, _, _, _, _, T.step hz ha1 hb1 hno ⟨x, up hxt, ha2⟩ ⟨y, hyt2, hb2⟩, hm5, by rw [List.map_append]; rfl, rfl⟩
    | 1, _ =>
      refine x_ixL (show _ = some (pD (b, a)) from rfl) ?_
      walk_at "js"
      refine x_append mup_same (by rw [List.length_map]; omega) ?_
      rw [mup_mup]
      walk_at "js"
      exact hN _ _ ⟨js ++ [(b, a)], m5, _, _, _, _, T.step hz hb1 ha1 (fun h => hno (h.symm hall0)) ⟨y, hyt2, hb2⟩ ⟨x, up hxt, ha2⟩, hm5, by rw [List.map_append]; rfl, rfl⟩
  · rintro δ μ' ⟨js, m', o4, o5, o6, o7, T, hm', rfl, rfl⟩
    have hg : Gd ys ls js := (gd_frs hs hn hz T.ok (by rw [T.len, hRl, pts_hds, List.length_map])).mpr T.frs
    walk_at "js"
    refine ⟨s, m', _, js.map pD, rfl, sm _ _, hm', .inr ⟨p, rfl, hps, mup_same⟩, by rw [List.length_map, T.len]; omega, fun Y2 m2 hY2 hm2 => ?_⟩
    obtain ⟨j2, hj2, rfl⟩ := perm_map (f := pD) hY2
    rw [cm]
    have hle : Le (mup μ s m2) (mup (mup μ s m2) p (.lst (js.map pD))) := le_on Le.rfl' (by rw [mup_ne hps] at hp ⊢; exact hp)
    rcases newL_le hle (q j2 m2 hm2 ((gd_js hj2.symm).mp hg)) with h | h
    · exact .inl (.of h)
    · exact .inr fun p hp => .of (h p hp)

/-! ### pairs bent; pairs judged -/
def sp_l_bent_joins : Sp2 := fun ds μ Q _ => ∃ (s : Addr) (m : MO) (hs : List Str) (js : List Pr), ds = [.ref s, .lst (hs.map D.str), .lst (js.map pD)] ∧ μ s = some m ∧ IsSt m ∧ hs.length ≤ 1000 ∧ js.length ≤ 100 ∧ ∀ (j2 : List Pr) (m' : MO), IsSt m' → j2.length ≤ 400 → NewL (j2.map pD) (mup μ s m') Q
theorem len_l_bent_joins (ds : List D) (μ : Mu) (Q : QE) (ex : Ex2) (h : sp_l_bent_joins ds μ Q ex) : ds.length = 3 := by
  obtain ⟨s, m, hs, js, rfl, _⟩ := h
  rfl
theorem cut_prs (js : List Pr) (lo hi : Option Int) : ∃ ks : List Pr, J.cutD (js.map pD) lo hi = ks.map pD ∧ ks.length ≤ js.length := by
  unfold J.cutD
  rw [← List.map_drop, ← List.map_take]
  exact ⟨_, rfl, Nat.le_trans (List.length_take_le' ..) (by rw [List.length_drop]; exact Nat.sub_le ..)⟩
theorem pure_l_bent_joins (ds : List D) (μ : Mu) (Q : QE) (ex : Ex2) (h : sp_l_bent_joins ds μ Q ex) : t_l_bent_joins sp_l_take (ends Q) (startD ["a", "b", "c", "d", "e", "f", "g", "h"] ds) μ := by
  obtain ⟨s, m, hs, js, rfl, hs0, hm, hhl, hjl, q⟩ := h
  have hsz := sizeLine_eq
  unfold t_l_bent_joins
  show jSeq _ _ (ends Q) [some _, some _, some _, none, none, none, none, none] μ
  walk_at "js"
  refine .f ?_
  rw [show [D.str "", D.str "A", D.str "zz"] = ([("" : Str), "A", "zz"]).map D.str from rfl]
  refine x_addL (by rw [List.length_map, List.length_map]; show _ + 3 ≤ _; omega) (.f ?_)
  rw [← List.map_append]
  have hwl : (hs ++ [("" : Str), "A", "zz"]).length ≤ 1003 := by rw [List.length_append]; show _ + 3 ≤ _; omega
  have hwp : 0 < (hs ++ [("" : Str), "A", "zz"]).length := by rw [List.length_append]; show 0 < _ + 3; omega
  generalize hs ++ [("" : Str), "A", "zz"] = us at hwl hwp
  walk_at "js"
  rw [List.length_map]
  refine ⟨s, us.length, m, rfl, hs0, hm, by omega, fun i m1 hm1 a1 a2 a3 => .of ?_⟩
  obtain ⟨one, _, e1⟩ := pick_ss a1 a2 a3 hwp
  refine x_ixL e1 ?_
  walk_at "js"
  rw [List.length_map]
  refine ⟨s, us.length, m1, rfl, mup_same, hm1, by omega, fun i2 m2 hm2 b1 b2 b3 => .of ?_⟩
  rw [mup_mup]
  obtain ⟨two, _, e2⟩ := pick_ss b1 b2 b3 hwp
  refine x_ixL e2 ?_
  walk_at "js"
  rw [List.length_map]
  refine ⟨s, js.length, m2, rfl, mup_same, hm2, by omega, fun at_ m3 hm3 c1 _ _ => .of ?_⟩
  rw [mup_mup]
  walk_at "js"
  refine ⟨s, 6, m3, rfl, mup_same, hm3, by decide, fun sy m4 hm4 _ _ _ => .of ?_⟩
  rw [mup_mup]
  have fin : ∀ j2 : List Pr, j2.length ≤ 400 → NewL (j2.map pD) (mup μ s m4) (Upd Q) := fun j2 h => by
    rcases q j2 m4 hm4 h with h | h
    · exact .inl (.of h)
    · exact .inr fun p hp => .of (h p hp)
  walk_at "js"
  refine w_ifd (fun _ => ?_) (fun _ => ?_)
  · walk_at "js"
    obtain ⟨ks, e3, l3⟩ := cut_prs js none (some at_)
    obtain ⟨k2, e4, l4⟩ := cut_prs js (some (at_ + 1)) none
    refine x_slL (.f ?_)
    walk_at "js"
    refine x_slL (.f ?_)
    rw [e3, e4]
    refine x_addL (by rw [List.length_map, List.length_map]; omega) ?_
    rw [← List.map_append]
    exact fin _ (by rw [List.length_append]; omega)
  walk_at "js"
  refine w_ifd (fun _ => ?_) (fun _ => ?_)
  · walk_at "js"
    obtain ⟨ks, e3, l3⟩ := cut_prs js none (some at_)
    obtain ⟨k2, e4, l4⟩ := cut_prs js (some at_) none
    refine x_slL (.f ?_)
    walk_at "js"
    refine .f ?_
    rw [e3, show [D.tup [.str one, .str two]] = [((one, two) : Pr)].map pD from rfl]
    refine x_addL (by rw [List.length_map, List.length_map, List.length_singleton]; omega) (.f ?_)
    rw [← List.map_append]
    walk_at "js"
    refine x_slL (.f ?_)
    rw [e4]
    refine x_addL (by rw [List.length_map, List.length_map, List.length_append, List.length_singleton]; omega) ?_
    rw [← List.map_append]
    exact fin _ (by rw [List.length_append, List.length_append, List.length_singleton]; omega)
  walk_at "js"
  refine w_ifd (fun _ => ?_) (fun _ => ?_)
  · walk_at "js"
    obtain ⟨k2, e4, l4⟩ := cut_prs js (some at_) (some (at_ + 1))
    refine x_slL (.f ?_)
    rw [e4]
    refine x_addL (by rw [List.length_map, List.length_map]; omega) ?_
    rw [← List.map_append]
    exact fin _ (by rw [List.length_append]; omega)
  walk_at "js"
  refine w_ifd (fun _ => ?_) (fun _ => ?_)
  · walk_at "js"
    obtain ⟨ks, e3, l3⟩ := cut_prs js none (some at_)
    obtain ⟨k2, e4, l4⟩ := cut_prs js (some (at_ + 1)) none
    refine x_slL (.f ?_)
    walk_at "js"
    refine .f ?_
    rw [e3, show [D.tup [.str one, .str one]] = [((one, one) : Pr)].map pD from rfl]
    refine x_addL (by rw [List.length_map, List.length_map, List.length_singleton]; omega) (.f ?_)
    rw [← List.map_append]
    walk_at "js"
    refine x_slL (.f ?_)
    rw [e4]
    refine x_addL (by rw [List.length_map, List.length_map, List.length_append, List.length_singleton]; omega) ?_
    rw [← List.map_append]
    exact fin _ (by rw [List.length_append, List.length_append, List.length_singleton]; omega)
  walk_at "js"
  refine w_ifd (fun _ => ?_) (fun _ => ?_)
  · walk_at "js"
    obtain ⟨ks, e3, l3⟩ := cut_prs js none (some at_)
    obtain ⟨k1, e5, l5⟩ := cut_prs js none (some 1)
    obtain ⟨k2, e4, l4⟩ := cut_prs js (some (at_ + 1)) none
    refine x_slL (.f ?_)
    walk_at "js"
    refine x_slL (.f ?_)
    rw [e3, e5]
    refine x_addL (by rw [List.length_map, List.length_map]; omega) (.f ?_)
    rw [← List.map_append]
    walk_at "js"
    refine x_slL (.f ?_)
    rw [e4]
    refine x_addL (by rw [List.length_map, List.length_map, List.length_append]; omega) ?_
    rw [← List.map_append]
    exact fin _ (by rw [List.length_append, List.length_append]; omega)
  walk_at "js"
  obtain ⟨ks, e3, l3⟩ := cut_prs js none (some at_)
  obtain ⟨k2, e4, l4⟩ := cut_prs js (some (at_ + 1)) none
  refine x_slL (.f ?_)
  walk_at "js"
  refine .f ?_
  rw [e3, show [D.tup [.str one, .str two]] = [((one, two) : Pr)].map pD from rfl]
  refine x_addL (by rw [List.length_map, List.length_map, List.length_singleton]; omega) (.f ?_)
  rw [← List.map_append]
  walk_at "js"
  refine x_slL (.f ?_)
  rw [e4]
  refine x_addL (by rw [List.length_map, List.length_map, List.length_append, List.length_singleton]; omega) ?_
  rw [← List.map_append]
  exact fin _ (by rw [List.length_append, List.length_append, List.length_singleton]; omega)
theorem pt_atm {d : D} (h : Atm d) : ∀ n, Pt n d
  | 0 => h
  | _ + 1 => .inl h
theorem atm_str {x : Str} : Atm (.str x) := by
  unfold Atm
  simp
theorem atm_bl {b : Bool} : Atm (.bl b) := by
  unfold Atm
  simp
theorem pt_prs {n : Nat} {js : List Pr} (h : js.length < 1000) : Pt (n + 2) (.lst (js.map pD)) := .inr ⟨_, .inl rfl, by rw [List.length_map]; exact h, fun x hx => by
  obtain ⟨p, _, rfl⟩ := List.mem_map.mp hx
  exact .inr ⟨_, .inr rfl, Nat.le_of_ble_eq_true rfl, fun x hx => by
    simp only [List.mem_cons, List.not_mem_nil, or_false] at hx
    rcases hx with rfl | rfl <;> exact pt_atm atm_str n⟩⟩
def sp_l_judged : Sp2 := fun ds μ Q _ => ∃ (ys hs : List Str) (ls zs : List Ln) (js : List Pr), ds = [.ins "Web" (webF ys ls zs), .lst (hs.map D.str), .lst (ls.map lnD), .lst (js.map pD)] ∧ WebOk ys ls zs ∧ ys.Perm hs ∧ js.length ≤ 400 ∧ Q (.bl true) μ
theorem len_l_judged (ds : List D) (μ : Mu) (Q : QE) (ex : Ex2) (h : sp_l_judged ds μ Q ex) : ds.length = 4 := by
  obtain ⟨ys, hs, ls, zs, js, rfl, _⟩ := h
  rfl
theorem gdB_zs {ys : List Str} {zs ls : List Ln} {js : List Pr} (hp : zs.Perm ls) : gdB ys zs js = gdB ys ls js := by
  by_cases h : Gd ys ls js
  · rw [gdB_yes h, gdB_yes ((gd_zs hp).mpr h)]
  · rw [gdB_no h, gdB_no fun k => h ((gd_zs hp).mp k)]
theorem near_hs {ys hs : List Str} {ls : List Ln} (hp : ys.Perm hs) (hz : ∀ z ∈ ls, z.2.1 ∈ ys ∧ z.2.2 ∈ ys ∧ z.2.1 ≠ z.2.2) : ∀ z ∈ ls, z.2.1 ∈ hs ∧ z.2.2 ∈ hs ∧ z.2.1 ≠ z.2.2 := fun z h => ⟨hp.mem_iff.mp (hz z h).1, hp.mem_iff.mp (hz z h).2.1, (hz z h).2.2⟩
theorem pure_l_judged (ds : List D) (μ : Mu) (Q : QE) (ex : Ex2) (h : sp_l_judged ds μ Q ex) : t_l_judged sp_l_plain sp_l_is_joins sp_is_joins (ends Q) (startD ["a", "b", "c", "d", "e", "f"] ds) μ := by
  obtain ⟨ys, hs, ls, zs, js, rfl, hw, hp, hjl, q⟩ := h
  have hz := lnok_near hw.ok
  have hyl := hw.len
  have hhl := hp.length_eq
  have hll := hw.ok.len
  unfold t_l_judged
  show jSeq _ _ (ends Q) [some _, some _, some _, some _, none, none] μ
  walk_at "js"
  refine ⟨_, _, rfl, .f, pt_prs (n := 4) (by omega), .of ?_⟩
  walk_at "js"
  refine ⟨ys, hs, ls, js, rfl, hp, hw.srt, hp.nodup_iff.mp hw.nd, by omega, by omega, near_hs hp hz, hjl, .of ?_⟩
  walk_at "js"
  refine ⟨ys, ls, zs, _, js, rfl, hw, .inl .f, by omega, .of ?_⟩
  rw [gdB_zs hw.perm]
  walk_at "js"
  refine ⟨_, _, rfl, .f, pt_atm atm_bl _, .of ?_⟩
  walk_at "js"
  refine ⟨_, _, rfl, .f, pt_atm atm_bl _, .of ?_⟩
  refine eq_self (pln_lay _ _) (by decide) ?_
  refine ⟨true, rfl, w_true ?_⟩
  walk_at "js"
  refine ⟨_, _, rfl, .f, pt_prs (n := 4) (by omega), .of ?_⟩
  walk_at "js"
  exact eq_self (pln_lay _ _) (by decide) (.of q)

/-! ### all about the pairs of a web -/
theorem web_jn {ys : List Str} {ls zs : List Ln} (hw : WebOk ys ls zs) (a b : Str) : Jn zs a b ↔ Jn ls a b := Jn.congr (adj_permZ hw.perm)
def sp_l_joins_hold : Sp2 := fun ds μ Q _ => ∃ (ys hs : List Str) (ls zs : List Ln), ds = [.ins "Web" (webF ys ls zs), .lst (hs.map D.str), .lst (ls.map lnD)] ∧ WebOk ys ls zs ∧ ys.Perm hs ∧ (∀ y ∈ ys, nmS y) ∧ Q (.bl true) μ
theorem len_l_joins_hold (ds : List D) (μ : Mu) (Q : QE) (ex : Ex2) (h : sp_l_joins_hold ds μ Q ex) : ds.length = 3 := by
  obtain ⟨ys, hs, ls, zs, rfl, _⟩ := h
  rfl
theorem pure_l_joins_hold (ds : List D) (μ : Mu) (Q : QE) (ex : Ex2) (h : sp_l_joins_hold ds μ Q ex) : t_l_joins_hold sp_least_joins sp_l_plain sp_l_parts sp_is_joins sp_l_joined_up (ends Q) (startD ["a", "b", "c", "d", "e", "f", "g", "h"] ds) μ := by
  obtain ⟨ys, hs, ls, zs, rfl, hw, hp, hnm, q⟩ := h
  have hsz := sizeLine_eq
  have hz := lnok_near hw.ok
  have hzz := lnok_near (hw.ok.perm hw.perm)
  have hyl := hw.len
  have hhl := hp.length_eq
  have hll := hw.ok.len
  have hgd := cj_gd hw.srt hw.nd hzz
  have hdl := hds_len (ys := ys) (zs := zs)
  have ehd : hds ys ls = hds ys zs := hds_congr fun a b => (web_jn hw a b).symm
  have hcl := cj_len (hds ys zs)
  have hpt : ∀ n, Pt (n + 2) (.lst ((cj (hds ys zs)).map pD)) := fun n => pt_prs (by omega)
  unfold t_l_joins_hold
  show jSeq _ _ (ends Q) [some _, some _, some _, none, none, none, none, none] μ
  walk_at "js"
  refine ⟨ys, hs, ls, rfl, hp, hw.srt, hp.nodup_iff.mp hw.nd, by omega, by omega, near_hs hp hz, .of ?_⟩
  rw [pts_hds, List.map_map, ehd]
  walk_at "js"
  refine lc_mapZ (hds ys zs) (fun x => .lst ((prt ys ls x).map D.str)) (fun x => .str x) (by omega) (fun x hx Y hY => ?_) (.f ?_)
  · obtain ⟨hx1, hx2⟩ := hds_mem.mp (ehd ▸ hx)
    obtain ⟨r0, er0⟩ := prt_head hw.srt hx1 hx2
    have e0 : ((prt ys ls x).map D.str)[0]? = some (.str x) := by rw [er0]; rfl
    walk_at "js"
    refine x_ixL (atI_nat (j := 0) e0) ?_
    exact hY
  have hxs := hcl
  generalize hxs' : hds ys zs = xs at hgd hdl hcl hpt
  rw [show xs.map (fun x => D.str x) = xs.map D.str from rfl]
  walk_at "js"
  rw [List.length_map]
  refine ⟨_, rfl, by unfold rngOk; omega, ?_⟩
  rw [show Int.toNat ((xs.length : Int) - 1) = xs.length - 1 by omega]
  refine lc_rng (fun k acc μ' => μ' = μ ∧ acc = ((cj xs).take k).map pD) (fun k acc μ' hk ⟨e1, e2⟩ N hN => ?_) (by omega) (fun acc μ' _ ⟨e1, e2⟩ => ?_) _ ⟨rfl, rfl⟩
  · subst e1 e2
    have hx : xs[k]? = some (xs[k]'(by omega)) := List.getElem?_eq_getElem (by omega)
    have hy : xs[k + 1]? = some (xs[k + 1]'(by omega)) := List.getElem?_eq_getElem (by omega)
    have hc := cj_get hx hy
    generalize xs[k]'(by omega) = x at hx hc
    generalize xs[k + 1]'(by omega) = y at hy hc
    have ex : atI (xs.map D.str) (k : Int) = some (.str x) := atI_some (by rw [List.getElem?_map, hx]; rfl)
    have ey : atI (xs.map D.str) ((k : Int) + 1) = some (.str y) := by
      rw [show (k : Int) + 1 = ((k + 1 : Nat) : Int) by omega]
      exact atI_some (by rw [List.getElem?_map, hy]; rfl)
    walk_at "js"
    refine x_ixL ex ?_
    walk_at "js"
    refine x_ixL ey ?_
    walk_at "js"
    exact hN _ _ ⟨rfl, by rw [List.take_succ, hc, List.map_append]; rfl⟩
  · subst e1 e2
    rw [← hcl, List.take_length]
    refine .f ?_
    walk_at "js"
    refine ⟨ys, ls, zs, rfl, hw, .m fun p hp1 => .of ?_⟩
    rw [hxs']
    walk_at "js"
    refine ⟨_, _, rfl, .m mup_same, hpt 4, .of ?_⟩
    walk_at "js"
    refine ⟨_, _, rfl, .f, hpt 4, .of ?_⟩
    refine ne_self (pln_lay _ _) (by decide) ?_
    refine ⟨false, rfl, w_false ?_⟩
    walk_at "js"
    refine ⟨ys, ls, zs, _, cj xs, rfl, hw, .inl (.m mup_same), by omega, .of ?_⟩
    rw [gdB_yes hgd]
    walk_at "js"
    refine w_false ?_
    walk_at "js"
    rw [List.length_map]
    refine ⟨_, rfl, by unfold rngOk; omega, ?_⟩
    rw [show Int.toNat ((cj xs).length : Int) = (cj xs).length from rfl]
    refine loop_rng (n := (cj xs).length) (fun k δ ν => ∃ o6, ν = mup μ' p (.lst ((cj xs).map pD)) ∧ δ = [some (.ins "Web" (webF ys ls zs)), some (.lst (hs.map D.str)), some (.lst (ls.map lnD)), some (.lst (xs.map D.str)), some (.lst ((cj xs).map pD)), some (.ref p), o6, none])
      (fun _ _ _ _ => trivial) ?_ ?_ _ _ ⟨_, rfl, rfl⟩
    · rintro k δ ν hk ⟨o6, rfl, rfl⟩ QN hN
      have ek : atI ((cj xs).map pD) (k : Int) = some (pD (cj xs)[k]) := atI_some (by rw [List.getElem?_map, List.getElem?_eq_getElem hk]; rfl)
      walk_at "js"
      refine x_slA (.inl (.m mup_same)) (.f ?_)
      walk_at "js"
      refine x_slA (.inl (.m mup_same)) (.f ?_)
      rw [show ((k : Int) + 1) = ((k + 1 : Nat) : Int) by omega, cut_take, cut_drop, ← List.map_take, ← List.map_drop]
      have k1 : ((cj xs).take k).length = k := by rw [List.length_take]; omega
      have k2 : ((cj xs).drop (k + 1)).length = (cj xs).length - (k + 1) := List.length_drop ..
      refine x_addL (by rw [List.length_map, List.length_map]; omega) (.f ?_)
      rw [← List.map_append]
      walk_at "js"
      refine ⟨ys, ls, zs, _, (cj xs).take k ++ (cj xs).drop (k + 1), rfl, hw, .inl .f, by rw [List.length_append]; omega, .of ?_⟩
      rw [gdB_no fun h => by
        have h1 := h.2.1
        have h2 := hgd.2.1
        rw [List.length_append] at h1
        omega]
      walk_at "js"
      refine w_false ?_
      walk_at "js"
      refine x_ixM mup_same ek ?_
      walk_at "js"
      refine .f ?_
      refine x_addA (.m mup_same) .f (by rw [List.length_map, List.length_singleton]; omega) (.f ?_)
      walk_at "js"
      refine ⟨ys, ls, zs, _, cj xs ++ [(cj xs)[k]], rfl, hw, .inl (by rw [List.map_append]; exact .f), by rw [List.length_append, List.length_singleton]; omega, .of ?_⟩
      rw [gdB_no fun h => by
        have h1 := h.2.1
        have h2 := hgd.2.1
        rw [List.length_append, List.length_singleton] at h1
        omega]
      walk_at "js"
      refine w_false ?_
      walk_at "js"
      exact hN _ _ ⟨_, rfl, rfl⟩
    · rintro δ ν ⟨o6, rfl, rfl⟩
      walk_at "js"
      rw [List.length_map, List.length_map]
      rename_i N0 hN0
      have tail : N0 [some (.ins "Web" (webF ys ls zs)), some (.lst (hs.map D.str)), some (.lst (ls.map lnD)), some (.lst (xs.map D.str)), some (.lst ((cj xs).map pD)), some (.ref p), o6, none] (mup μ' p (.lst ((cj xs).map pD))) := by
        rw [hN0]
        clear hN0
        walk_at "js"
        refine x_append mup_same (by rw [List.length_map]; omega) ?_
        rw [mup_mup]
        walk_at "js"
        refine ⟨ys, ls, zs, rfl, hw, .f (.of ?_)⟩
        rw [hxs']
        walk_at "js"
        refine ⟨_, _, rfl, .f, hpt 4, .of ?_⟩
        walk_at "js"
        refine ⟨_, _, rfl, .f, hpt 4, .of ?_⟩
        exact eq_self (pln_lay _ _) (by decide) (.drop (le_on Le.rfl' hp1) q)
      clear hN0
      have hokys : PrOk ys (cj xs) := hgd.1
      refine w_ifd (fun hsm => ?_) (fun _ => ?_)
      · walk_at "js"
        refine ⟨ys, ls, zs, _, cj xs, rfl, hw, hnm, .inl (.m mup_same), hokys, by omega, .of ?_⟩
        rw [gd_one hw.srt hw.nd hzz hgd]
        walk_at "js"
        rw [List.length_map]
        refine w_ifn (fun hne => absurd ?_ hne) (fun _ => ?_)
        · rw [hhl]
          split <;> split <;> omega
        walk_at "js"
        rw [List.length_map]
        refine w_ifd (fun hpos => ?_) (fun _ => ?_)
        · walk_at "js"
          refine x_slA (.inl (.m mup_same)) (.f ?_)
          obtain ⟨p0, js0, hjs0⟩ : ∃ p0 js0, cj xs = p0 :: js0 := by
            cases h : cj xs with
            | nil => rw [h] at hpos; simp at hpos
            | cons a r => exact ⟨a, r, rfl⟩
          have hgd2 := hgd
          rw [hjs0] at hgd2
          rw [show (1 : Int) = ((1 : Nat) : Int) from rfl, cut_drop, ← List.map_drop, hjs0, List.drop_one, List.tail_cons]
          walk_at "js"
          refine ⟨ys, ls, zs, _, js0, rfl, hw, hnm, .inl .f, fun q hq => hgd2.1 q (List.mem_cons_of_mem _ hq), by rw [hjs0, List.length_cons] at hsm; omega, .of ?_⟩
          rw [gd_tail hw.srt hw.nd hzz hgd2]
          walk_at "js"
          refine w_ifn (fun hne => absurd rfl hne) (fun _ => ?_)
          walk_at "js"
          rw [hjs0] at tail
          exact tail
        · walk_at "js"
          exact tail
      · walk_at "js"
        exact tail

/-! ### a web made of passed rows -/
theorem web_madeH {ys : List Str} {ls : List Ln} {hd : List (Ln × Bool × Bool)} {x : Addr} {μ : Mu} {Q : QE} (e : hd.map (·.1) = ls) (hy : Hs ys) (hyl : ys.length ≤ 32) (ho : LnOk ys ls) (hx : μ x = none) (q : ∀ ys' zs, WebOk ys' ls zs → ys'.Perm ys → Q (.ins "Web" (webF ys' ls zs)) μ) :
    sp_Web_init [.ref x, .lst (ys.map D.str), .lst ((hd.map hndR).map rwD)] (mup μ x (.ins "Web" [])) (fun d μ2 => d = .non ∧ Upd Q (.ref x) μ2) noEx := by
  have er := runLs_hd0 hy ho e
  have ew : webE (ys.map D.str) ((hd.map hndR).map (·.1)) = none := by rw [webE_ys hy hyl, er]
  have e2 : (runLs ((ys.map D.str).map strOf) [] ((hd.map hndR).map (·.1))).2 = ls := by rw [strOf_map, er]
  have hrow := hs_row hy hyl
  refine ⟨x, _, _, ys.map D.str, _, (hd.map hndR).map (·.1), rfl, mup_same, .inl rfl, ⟨by rw [List.length_map]; omega, hrow.2⟩, .inl rfl, ?_, fun _ ys' zs hw hsrt => ⟨rfl, ?_⟩, fun μ' hle => ?_⟩
  · exact rws_map (hd_vl hy ho e)
  · rw [e2] at hw ⊢
    rw [mup_mup]
    refine .ins mup_same ?_
    rw [mdel_mup hx]
    exact q _ _ hw (srt_perm hsrt)
  · rw [ew]
    trivial
/-! ### the law -/
def sp_law : Sp2 := fun ds _ Q _ => ∃ ns : List Int, ds = [.rol (ns.map D.int)] ∧ ns.length ≤ 63 ∧ ∀ μ', Q (.bl true) μ'
theorem len_law (ds : List D) (μ : Mu) (Q : QE) (ex : Ex2) (h : sp_law ds μ Q ex) : ds.length = 1 := by
  obtain ⟨ns, rfl, _⟩ := h
  rfl
theorem start_law : Start sp_law := fun ns μ Q hl q => ⟨ns, rfl, hl, q⟩
theorem mk_mm {w a b : Str} (h : a ≠ b) : ((w, (if b.cps.toList < a.cps.toList then b else a), (if a.cps.toList < b.cps.toList then b else a)) : Ln) = mkLn (.str w) (.str a) (.str b) := by
  rw [mkLn_str]
  unfold ltS
  by_cases h1 : b.cps.toList < a.cps.toList
  · rw [decide_eq_true h1, if_pos rfl, if_pos h1, if_neg fun h2 => List.lt_irrefl _ (List.lt_trans h1 h2)]
  · rw [decide_eq_false h1, if_neg Bool.false_ne_true, if_neg h1, if_pos (str_ne_lt h h1)]
theorem pure_law (ds : List D) (μ : Mu) (Q : QE) (ex : Ex2) (h : sp_law ds μ Q ex) : t_law sp_l_store sp_l_drawn_web sp_Web_init sp_l_joins_hold sp_l_take sp_l_passed sp_l_any_joins sp_l_unused sp_Web_with_line sp_l_parts sp_l_judged sp_Web_houses sp_Web_lines sp_is_joins sp_l_bent_joins sp_Web_without_line sp_l_without (ends Q) (startD ["a", "b", "c", "d", "e", "f", "g", "h", "i", "j", "k", "l", "m"] ds) μ := by
  obtain ⟨ns, rfl, hl, q⟩ := h
  unfold t_law
  show jSeq _ _ (ends Q) [some _, none, none, none, none, none, none, none, none, none, none, none, none] μ
  have hsz := sizeLine_eq
  walk_at "js"
  refine ⟨ns, rfl, hl, fun s m0 hs0 hm0 => .of ?_⟩
  walk_at "js"
  refine ⟨s, m0, 32, rfl, mup_same, hm0, by decide, by decide, fun hs ls0 m1 hm1 hy hyl ho0 _ => .of ?_⟩
  rw [mup_mup]
  walk_at "js"
  rename_i N0 hN0
  have main : ∀ (ls : List Ln) (m1 : MO), LnOk hs ls → IsSt m1 → N0 [some (.rol (ns.map D.int)), some (.ref s), some (.lst (hs.map D.str)), some (.lst (ls.map lnD)), none, none, none, none, none, none, none, none, none] (mup μ s m1) := by
    intro ls m1 ho hm1
    have hll := ho.len
    rw [hN0]
    clear hN0
    walk_at "js"
    refine .f ?_
    walk_at "js"
    refine ⟨s, m1, ls, rfl, mup_same, hm1, by omega, fun hd m2 hm2 e => .f (.of ?_)⟩
    rw [mup_mup]
    walk_at "js"
    intro x hx
    refine web_madeH e hy hyl ho hx fun y1 z1 hw1 hp1 => ?_
    have hnm1 : ∀ y ∈ y1, nmS y := fun y h => hy.nm y (hp1.subset h)
    have hz1 := lnok_near hw1.ok
    have hhs : hs.Nodup := hy.nd
    walk_at "js"
    refine ⟨y1, hs, ls, z1, rfl, hw1, hp1, hnm1, .of ?_⟩
    refine ⟨true, rfl, ?_⟩
    rw [if_neg (by decide)]
    walk_at "js"
    refine ⟨_, rfl, by unfold rngOk; omega, ?_⟩
    rw [show Int.toNat 4 = 4 from rfl]
    refine loop_rng (n := 4) (fun k δ μ' => ∃ (m' : MO) (o5 o6 : Option D), IsSt m' ∧ μ' = mup μ s m' ∧ δ = [some (.rol (ns.map D.int)), some (.ref s), some (.lst (hs.map D.str)), some (.lst (ls.map lnD)), some (.ins "Web" (webF y1 ls z1)), o5, o6, none, none, none, none, none, none])
      (fun _ _ _ _ => trivial) ?_ ?_ _ _ ⟨m2, _, _, hm2, rfl, rfl⟩
    · rintro k δ μ' hk ⟨m', o5, o6, hm', rfl, rfl⟩ QN hN
      walk_at "js"
      refine ⟨y1, hs, ls, rfl, hp1, hw1.srt, hhs, by omega, by omega, near_hs hp1 hz1, .of ?_⟩
      walk_at "js"
      refine ⟨s, m', y1, ls, rfl, mup_same, hm', hw1.srt, hw1.nd, hw1.len, hz1, fun js m3 hm3 hg => .f (.of ?_)⟩
      rw [mup_mup]
      have hjl : js.length ≤ 32 := by
        have h1 := hg.2.1
        have h2 := pts_len (ys := y1) (zs := ls)
        have h3 := hw1.len
        omega
      walk_at "js"
      refine .f ?_
      walk_at "js"
      refine ⟨y1, ls, z1, _, js, rfl, hw1, .inl .f, by omega, .of ?_⟩
      rw [gdB_zs hw1.perm, gdB_yes hg]
      walk_at "js"
      refine w_false ?_
      walk_at "js"
      refine ⟨y1, hs, ls, z1, js, rfl, hw1, hp1, by omega, .of ?_⟩
      refine ⟨true, rfl, ?_⟩
      rw [if_neg (by decide)]
      walk_at "js"
      refine ⟨s, m3, hs, js, rfl, mup_same, hm3, by omega, by omega, fun j2 m4 hm4 hj2 => .f (.of ?_)⟩
      rw [mup_mup]
      walk_at "js"
      refine ⟨y1, hs, ls, z1, j2, rfl, hw1, hp1, hj2, .of ?_⟩
      refine ⟨true, rfl, ?_⟩
      rw [if_neg (by decide)]
      walk_at "js"
      exact hN _ _ ⟨m4, _, _, hm4, rfl, rfl⟩
    · rintro δ μ' ⟨m', o5, o6, hm', rfl, rfl⟩
      walk_at "js"
      rw [List.length_map]
      rename_i N1 hN1
      have tail : ∀ (m' : MO) (o7 o8 o9 o10 o11 o12 : Option D), IsSt m' → N1 [some (.rol (ns.map D.int)), some (.ref s), some (.lst (hs.map D.str)), some (.lst (ls.map lnD)), some (.ins "Web" (webF y1 ls z1)), o5, o6, o7, o8, o9, o10, o11, o12] (mup μ s m') := by
        intro m' o7 o8 o9 o10 o11 o12 hm'
        rw [hN1]
        clear hN1
        walk_at "js"
        refine ⟨⟨_, .inl rfl⟩, y1, ls, z1, rfl, .of ?_⟩
        walk_at "js"
        refine x_sortedW (by omega) hp1 hw1.srt (.f ?_)
        refine ne_self (Lay.lst (n := 0) Lay.strs) (by decide) ?_
        refine ⟨false, rfl, w_false ?_⟩
        walk_at "js"
        refine ⟨⟨_, .inl rfl⟩, y1, ls, z1, rfl, .of ?_⟩
        walk_at "js"
        refine x_sortedN .f ho.nd hw1.perm hw1.asc (.f ?_)
        refine ne_self (Lay.lst (n := 1) fun x hx => ?_) (by decide) ?_
        · obtain ⟨z, _, rfl⟩ := List.mem_map.mp hx
          refine Lay.tup (n := 0) fun x hx => ?_
          simp only [List.mem_cons, List.not_mem_nil, or_false] at hx
          rcases hx with rfl | rfl | rfl <;> exact Lay.str
        refine ⟨false, rfl, w_false ?_⟩
        walk_at "js"
        exact ⟨y1, hs, ls, z1, rfl, hw1, hp1, hnm1, .of (.of (q _))⟩
      clear hN1
      refine w_ifd (fun h2 => ?_) (fun _ => ?_)
      · walk_at "js"
        rw [List.length_map]
        refine w_ifd (fun h30 => ?_) (fun _ => ?_)
        · walk_at "js"
          rw [List.length_map]
          refine ⟨s, hs.length, m', rfl, mup_same, hm', by omega, fun i m3 hm3 a1 a2 a3 => .of ?_⟩
          rw [mup_mup]
          walk_at "js"
          rw [List.length_map]
          refine ⟨s, hs.length - 1, m3, rfl, mup_same, hm3, by omega, fun r m4 hm4 b1 b2 b3 => .of ?_⟩
          rw [mup_mup]
          walk_at "js"
          rw [List.length_map]
          refine x_mod (by omega) ?_
          have hi : i < (hs.length : Int) := a3 (by omega)
          have hr : r < (hs.length : Int) - 1 := by
            by_cases h : (hs.length : Int) - 1 < 2
            · have := b2 h
              omega
            · have := b3 (by omega)
              omega
          obtain ⟨j, hj, hj2⟩ : ∃ j : Nat, (i + 1 + r) % (hs.length : Int) = j ∧ j < hs.length := ⟨((i + 1 + r) % (hs.length : Int)).toNat, by have := Int.emod_nonneg (i + 1 + r) (b := (hs.length : Int)) (by omega); omega, by have := Int.emod_lt_of_pos (i + 1 + r) (b := (hs.length : Int)) (by omega); have := Int.emod_nonneg (i + 1 + r) (b := (hs.length : Int)) (by omega); omega⟩
          obtain ⟨i, rfl⟩ : ∃ k : Nat, i = k := ⟨i.toNat, by omega⟩
          have hij : i ≠ j := fun e => by
            subst e
            have h1 := Int.emod_add_mul_ediv ((i : Int) + 1 + r) (hs.length : Int)
            rw [hj] at h1
            have h3 : (hs.length : Int) * (((i : Int) + 1 + r) / (hs.length : Int)) = 1 + r := by omega
            rcases Int.lt_trichotomy (((i : Int) + 1 + r) / (hs.length : Int)) 0 with h | h | h
            · have := Int.mul_neg_of_pos_of_neg (a := (hs.length : Int)) (by omega) h
              omega
            · rw [h, Int.mul_zero] at h3
              omega
            · have : (hs.length : Int) * 1 ≤ (hs.length : Int) * (((i : Int) + 1 + r) / (hs.length : Int)) := Int.mul_le_mul_of_nonneg_left (by omega) (by omega)
              omega
          rw [hj]
          have hil : i < hs.length := by omega
          have ea : atI (hs.map D.str) (i : Int) = some (.str hs[i]) := atI_some (by rw [List.getElem?_map, List.getElem?_eq_getElem hil]; rfl)
          have eb : atI (hs.map D.str) (j : Int) = some (.str hs[j]) := atI_some (by rw [List.getElem?_map, List.getElem?_eq_getElem hj2]; rfl)
          have hab : hs[i] ≠ hs[j] := fun e => by
            rcases Nat.lt_or_gt_of_ne hij with h | h
            · exact List.pairwise_iff_getElem.mp hhs i j hil hj2 h e
            · exact List.pairwise_iff_getElem.mp hhs j i hj2 hil h e.symm
          have ha := List.getElem_mem hil
          have hb := List.getElem_mem hj2
          generalize hs[i] = a at ea hab ha
          generalize hs[j] = b at eb hab hb
          walk_at "js"
          refine ⟨ls, rfl, by omega, fun w hw2 hw3 => .of ?_⟩
          walk_at "js"
          refine x_ixL ea ?_
          walk_at "js"
          refine x_ixL eb ?_
          walk_at "js"
          refine x_minS ?_
          walk_at "js"
          refine x_ixL ea ?_
          walk_at "js"
          refine x_ixL eb ?_
          walk_at "js"
          refine x_maxS ?_
          walk_at "js"
          refine .f ?_
          have emk := mk_mm (w := w) hab
          rw [show [D.tup [.str w, .str (if b.cps.toList < a.cps.toList then b else a), .str (if a.cps.toList < b.cps.toList then b else a)]] = [mkLn (.str w) (.str a) (.str b)].map lnD by rw [← emk]; rfl]
          refine x_addL (by rw [List.length_map, List.length_map, List.length_singleton]; omega) (.f ?_)
          rw [← List.map_append]
          walk_at "js"
          refine ⟨⟨_, .inl rfl, rfl⟩, ?_⟩
          walk_at "js"
          refine x_ixL ea ?_
          walk_at "js"
          refine x_ixL eb ?_
          walk_at "js"
          have hput : duePut y1 (ls.map (·.1)) (.str w) (.str a) (.str b) = none := put_none hw2 (hy.nm a ha) (hy.nm b hb) (hp1.symm.subset ha) (hp1.symm.subset hb) hab hw3 (by rw [List.length_map]; omega)
          refine ⟨y1, ls, z1, .str w, .str a, .str b, rfl, hw1, vl_str (by have := nmS_len hw2; omega), vl_str (by have := nmS_len (hy.nm a ha); omega), vl_str (by have := nmS_len (hy.nm b hb); omega), fun _ z2 hw2' => .of ?_, by rw [hput]; trivial⟩
          have hml : (ls ++ [mkLn (.str w) (.str a) (.str b)]).length ≤ 96 := hw2'.ok.len
          have hmn : ∀ z ∈ ls, z ∈ ls ++ [mkLn (.str w) (.str a) (.str b)] := fun z h => List.mem_append_left _ h
          generalize ls ++ [mkLn (.str w) (.str a) (.str b)] = more at hw2' hml hmn
          walk_at "js"
          refine ⟨y1, hs, more, z2, rfl, hw2', hp1, hnm1, .of ?_⟩
          refine ⟨true, rfl, ?_⟩
          rw [if_neg (by decide)]
          walk_at "js"
          refine x_slL (.f ?_)
          rw [show cutD (ls.map lnD) none (some 2) = (ls.take 2).map lnD by rw [List.map_take]; exact cut_take _ 2]
          walk_at "js"
          refine loop_Z (ls.take 2) lnD (fun dn δ μ' => ∃ o12, μ' = mup μ s m4 ∧ δ = [some (.rol (ns.map D.int)), some (.ref s), some (.lst (hs.map D.str)), some (.lst (ls.map lnD)), some (.ins "Web" (webF y1 ls z1)), o5, o6, some (.int i), some (.int j), some (.str w), some (.lst (more.map lnD)), some (.ins "Web" (webF y1 more z2)), o12]) (fun _ _ _ _ => trivial) ?_ ?_ _ _ ⟨_, rfl, rfl⟩
          · rintro dn z rs δ μ' hzs ⟨o12, rfl, rfl⟩ QN hN
            have hzl : z ∈ ls := List.take_subset 2 ls (by rw [hzs]; simp)
            have hzn := ho.nm z hzl
            have hdue : dueL (more.map (·.1)) (.str z.1) = none := by
              unfold dueL
              rw [if_pos (show nmD (.str z.1) = true from hzn), if_pos (show strOf (.str z.1) ∈ more.map (·.1) from List.mem_map_of_mem (hmn z hzl))]
            show kName 12 (.tup [.str z.1, .str z.2.1, .str z.2.2]) _ _ _
            walk_at "js"
            refine ⟨⟨_, .inl rfl, rfl⟩, ?_⟩
            walk_at "js"
            refine ⟨y1, more, z2, .str z.1, rfl, hw2', vl_str (by have := nmS_len hzn; omega), fun _ z3 hw3' => .of ?_, by rw [hdue]; trivial⟩
            walk_at "js"
            refine ⟨more, z.1, rfl, by omega, .of ?_⟩
            walk_at "js"
            refine ⟨y1, hs, less more (.str z.1), z3, rfl, hw3', hp1, hnm1, .of ?_⟩
            refine ⟨true, rfl, ?_⟩
            rw [if_neg (by decide)]
            walk_at "js"
            exact hN _ _ ⟨_, rfl, rfl⟩
          · rintro δ μ' ⟨o12, rfl, rfl⟩
            exact tail m4 _ _ _ _ _ _ hm4
        · walk_at "js"
          exact tail m' _ _ _ _ _ _ hm'
      · walk_at "js"
        exact tail m' _ _ _ _ _ _ hm'
  clear hN0
  refine ⟨s, 2, m1, rfl, mup_same, hm1, by decide, fun r m2 hm2 _ _ _ => .of ?_⟩
  rw [mup_mup]
  walk_at "js"
  refine w_ifd (fun _ => ?_) (fun _ => ?_)
  · walk_at "js"
    rw [List.length_map]
    refine x_slL (.f ?_)
    rw [show ((hs.length : Int) / 2) = ((hs.length / 2 : Nat) : Int) from rfl, cut_take, ← List.map_take]
    walk_at "js"
    exact main _ m2 (ho0.sublist (List.take_sublist ..)) hm2
  · walk_at "js"
    exact main _ m2 ho0 hm2

section
variable {P : Program} {w : World} {K : PySem.W.Frag} {mg : Str → Option Value} {base : Heap} {fa : Nat → Addr} {fd : Nat → FuncData}
theorem Txt.bd_Web_init_1 (T : Txt P K mg fa fd) : ∃ ds, Vals ([V.ref (He.dflAt ("Web", some "__init__") 0 K), V.ref (He.dflAt ("Web", some "__init__") 1 K)] : List V) ds ∧ Binds K (fd 14) ["self", "houses", "lines"] ds := T.F_Web_init.binds1 1 0 (by simp) rfl fun _ _ _ _ _ _ _ us its hl hi => match us, its, hl, hi with | [_], [_, _], _, _ => ⟨_, rfl, rfl⟩
theorem Txt.bd_Web_init_2 (T : Txt P K mg fa fd) : ∃ ds, Vals ([V.ref (He.dflAt ("Web", some "__init__") 1 K)] : List V) ds ∧ Binds K (fd 14) ["self", "houses", "lines"] ds := T.F_Web_init.binds1 2 1 (by simp) rfl fun _ _ _ _ _ _ _ us its hl hi => match us, its, hl, hi with | [_, _], [_, _], _, _ => ⟨_, rfl, rfl⟩
theorem Txt.bd_Web_init_3 (T : Txt P K mg fa fd) : ∃ ds, Vals ([] : List V) ds ∧ Binds K (fd 14) ["self", "houses", "lines"] ds := T.F_Web_init.binds1 3 2 (by simp) rfl fun _ _ _ _ _ _ _ us its hl hi => match us, its, hl, hi with | [_, _, _], [_, _], _, _ => ⟨_, rfl, rfl⟩
theorem Txt.bi_is_letter (T : Txt P K mg fa fd) : Binds K (fd 0) ["character"] [] := T.F_is_letter.bindsN fun _ _ _ _ _ _ us hl => match us, hl with | [_], _ => rfl
theorem Txt.bi_is_digit (T : Txt P K mg fa fd) : Binds K (fd 1) ["character"] [] := T.F_is_digit.bindsN fun _ _ _ _ _ _ us hl => match us, hl with | [_], _ => rfl
theorem Txt.bi_is_name (T : Txt P K mg fa fd) : Binds K (fd 2) ["word"] [] := T.F_is_name.bindsN fun _ _ _ _ _ _ us hl => match us, hl with | [_], _ => rfl
theorem Txt.bi_check_name (T : Txt P K mg fa fd) : Binds K (fd 3) ["word"] [] := T.F_check_name.bindsN fun _ _ _ _ _ _ us hl => match us, hl with | [_], _ => rfl
theorem Txt.bi_check_houses (T : Txt P K mg fa fd) : Binds K (fd 4) ["houses"] [] := T.F_check_houses.bindsN fun _ _ _ _ _ _ us hl => match us, hl with | [_], _ => rfl
theorem Txt.bi_ordered (T : Txt P K mg fa fd) : Binds K (fd 5) ["a", "b"] [] := T.F_ordered.bindsN fun _ _ _ _ _ _ us hl => match us, hl with | [_, _], _ => rfl
theorem Txt.bi_lines_by_house_plain (T : Txt P K mg fa fd) : Binds K (fd 6) ["web", "without"] [] := T.F_lines_by_house_plain.bindsN fun _ _ _ _ _ _ us hl => match us, hl with | [_, _], _ => rfl
theorem Txt.bi_step_counts (T : Txt P K mg fa fd) : Binds K (fd 7) ["lines_of", "house"] [] := T.F_step_counts.bindsN fun _ _ _ _ _ _ us hl => match us, hl with | [_, _], _ => rfl
theorem Txt.bi_find_parts (T : Txt P K mg fa fd) : Binds K (fd 8) ["web"] [] := T.F_find_parts.bindsN fun _ _ _ _ _ _ us hl => match us, hl with | [_], _ => rfl
theorem Txt.bi_merge_names (T : Txt P K mg fa fd) : Binds K (fd 9) ["names", "a", "b"] [] := T.F_merge_names.bindsN fun _ _ _ _ _ _ us hl => match us, hl with | [_, _, _], _ => rfl
theorem Txt.bi_check_new_line (T : Txt P K mg fa fd) : Binds K (fd 10) ["line", "a", "b", "houses", "lines"] [] := T.F_check_new_line.bindsN fun _ _ _ _ _ _ us hl => match us, hl with | [_, _, _, _, _], _ => rfl
theorem Txt.bi_line_tuples (T : Txt P K mg fa fd) : Binds K (fd 11) ["pairs"] [] := T.F_line_tuples.bindsN fun _ _ _ _ _ _ us hl => match us, hl with | [_], _ => rfl
theorem Txt.bi_lines_by_house_webs (T : Txt P K mg fa fd) : Binds K (fd 12) ["houses", "lines"] [] := T.F_lines_by_house_webs.bindsN fun _ _ _ _ _ _ us hl => match us, hl with | [_, _], _ => rfl
theorem Txt.bi_checked_web (T : Txt P K mg fa fd) : Binds K (fd 13) ["houses", "pairs"] [] := T.F_checked_web.bindsN fun _ _ _ _ _ _ us hl => match us, hl with | [_, _], _ => rfl
theorem Txt.bi_Web_houses (T : Txt P K mg fa fd) : Binds K (fd 15) ["self"] [] := T.F_Web_houses.bindsN fun _ _ _ _ _ _ us hl => match us, hl with | [_], _ => rfl
theorem Txt.bi_Web_lines (T : Txt P K mg fa fd) : Binds K (fd 16) ["self"] [] := T.F_Web_lines.bindsN fun _ _ _ _ _ _ us hl => match us, hl with | [_], _ => rfl
theorem Txt.bi_Web_with_line (T : Txt P K mg fa fd) : Binds K (fd 17) ["self", "line", "a", "b"] [] := T.F_Web_with_line.bindsN fun _ _ _ _ _ _ us hl => match us, hl with | [_, _, _, _], _ => rfl
theorem Txt.bi_Web_without_line (T : Txt P K mg fa fd) : Binds K (fd 18) ["self", "line"] [] := T.F_Web_without_line.bindsN fun _ _ _ _ _ _ us hl => match us, hl with | [_, _], _ => rfl
theorem Txt.bi_least_joins (T : Txt P K mg fa fd) : Binds K (fd 19) ["web"] [] := T.F_least_joins.bindsN fun _ _ _ _ _ _ us hl => match us, hl with | [_], _ => rfl
theorem Txt.bi_is_joins (T : Txt P K mg fa fd) : Binds K (fd 20) ["web", "joins"] [] := T.F_is_joins.bindsN fun _ _ _ _ _ _ us hl => match us, hl with | [_, _], _ => rfl
theorem Txt.bi_l_store (T : Txt P K mg fa fd) : Binds K (fd 21) ["_law_script"] [] := T.F_l_store.bindsN fun _ _ _ _ _ _ us hl => match us, hl with | [_], _ => rfl
theorem Txt.bi_l_take (T : Txt P K mg fa fd) : Binds K (fd 22) ["_law_store_here", "_law_many"] [] := T.F_l_take.bindsN fun _ _ _ _ _ _ us hl => match us, hl with | [_, _], _ => rfl
theorem Txt.bi_l_parts (T : Txt P K mg fa fd) : Binds K (fd 23) ["_law_houses", "_law_lines"] [] := T.F_l_parts.bindsN fun _ _ _ _ _ _ us hl => match us, hl with | [_, _], _ => rfl
theorem Txt.bi_l_without (T : Txt P K mg fa fd) : Binds K (fd 24) ["_law_lines", "_law_name"] [] := T.F_l_without.bindsN fun _ _ _ _ _ _ us hl => match us, hl with | [_, _], _ => rfl
theorem Txt.bi_l_is_joins (T : Txt P K mg fa fd) : Binds K (fd 25) ["_law_houses", "_law_lines", "_law_joins"] [] := T.F_l_is_joins.bindsN fun _ _ _ _ _ _ us hl => match us, hl with | [_, _, _], _ => rfl
theorem Txt.bi_l_mixed (T : Txt P K mg fa fd) : Binds K (fd 26) ["_law_store_here", "_law_items"] [] := T.F_l_mixed.bindsN fun _ _ _ _ _ _ us hl => match us, hl with | [_, _], _ => rfl
theorem Txt.bi_l_words (T : Txt P K mg fa fd) : Binds K (fd 27) ["_law_store_here", "_law_many"] [] := T.F_l_words.bindsN fun _ _ _ _ _ _ us hl => match us, hl with | [_, _], _ => rfl
theorem Txt.bi_l_ends (T : Txt P K mg fa fd) : Binds K (fd 28) ["_law_store_here", "_law_houses", "_law_shape", "_law_k"] [] := T.F_l_ends.bindsN fun _ _ _ _ _ _ us hl => match us, hl with | [_, _, _, _], _ => rfl
theorem Txt.bi_l_drawn_web (T : Txt P K mg fa fd) : Binds K (fd 29) ["_law_store_here", "_law_most"] [] := T.F_l_drawn_web.bindsN fun _ _ _ _ _ _ us hl => match us, hl with | [_, _], _ => rfl
theorem Txt.bi_l_plain (T : Txt P K mg fa fd) : Binds K (fd 30) ["_law_value"] [] := T.F_l_plain.bindsN fun _ _ _ _ _ _ us hl => match us, hl with | [_], _ => rfl
theorem Txt.bi_l_passed (T : Txt P K mg fa fd) : Binds K (fd 31) ["_law_store_here", "_law_lines"] [] := T.F_l_passed.bindsN fun _ _ _ _ _ _ us hl => match us, hl with | [_, _], _ => rfl
theorem Txt.bi_l_unused (T : Txt P K mg fa fd) : Binds K (fd 32) ["_law_lines"] [] := T.F_l_unused.bindsN fun _ _ _ _ _ _ us hl => match us, hl with | [_], _ => rfl
theorem Txt.bi_l_any_joins (T : Txt P K mg fa fd) : Binds K (fd 33) ["_law_store_here", "_law_parts_here"] [] := T.F_l_any_joins.bindsN fun _ _ _ _ _ _ us hl => match us, hl with | [_, _], _ => rfl
theorem Txt.bi_l_bent_joins (T : Txt P K mg fa fd) : Binds K (fd 34) ["_law_store_here", "_law_houses", "_law_joins"] [] := T.F_l_bent_joins.bindsN fun _ _ _ _ _ _ us hl => match us, hl with | [_, _, _], _ => rfl
theorem Txt.bi_l_judged (T : Txt P K mg fa fd) : Binds K (fd 35) ["_law_web", "_law_houses", "_law_lines", "_law_joins"] [] := T.F_l_judged.bindsN fun _ _ _ _ _ _ us hl => match us, hl with | [_, _, _, _], _ => rfl
theorem Txt.bi_l_joined_up (T : Txt P K mg fa fd) : Binds K (fd 36) ["_law_web", "_law_joins"] [] := T.F_l_joined_up.bindsN fun _ _ _ _ _ _ us hl => match us, hl with | [_, _], _ => rfl
theorem Txt.bi_l_joins_hold (T : Txt P K mg fa fd) : Binds K (fd 37) ["_law_web", "_law_houses", "_law_lines"] [] := T.F_l_joins_hold.bindsN fun _ _ _ _ _ _ us hl => match us, hl with | [_, _, _], _ => rfl
theorem Txt.bi_law (T : Txt P K mg fa fd) : Binds K (fd 38) ["_law_script"] [] := T.F_law.bindsN fun _ _ _ _ _ _ us hl => match us, hl with | [_], _ => rfl
theorem Txt.k_LONGEST_NAME {X : Cx} {Z : Zw} (T : Txt P X.K X.mg fa fd) (hg : Gl X "LONGEST_NAME") {pos : Pos} : E2 X Z (.Name "LONGEST_NAME" pos) (jC c_LONGEST_NAME) := by
  obtain ⟨v, u, h1, h2, h3⟩ := T.m_LONGEST_NAME
  exact jglob hg h1 h2 h3
theorem Txt.k_MOST_HOUSES {X : Cx} {Z : Zw} (T : Txt P X.K X.mg fa fd) (hg : Gl X "MOST_HOUSES") {pos : Pos} : E2 X Z (.Name "MOST_HOUSES" pos) (jC c_MOST_HOUSES) := by
  obtain ⟨v, u, h1, h2, h3⟩ := T.m_MOST_HOUSES
  exact jglob hg h1 h2 h3
theorem Txt.k_MOST_LINES {X : Cx} {Z : Zw} (T : Txt P X.K X.mg fa fd) (hg : Gl X "MOST_LINES") {pos : Pos} : E2 X Z (.Name "MOST_LINES" pos) (jC c_MOST_LINES) := by
  obtain ⟨v, u, h1, h2, h3⟩ := T.m_MOST_LINES
  exact jglob hg h1 h2 h3
theorem Txt.xk (T : Txt P K mg fa fd) {D C : Str} {b : Bool} (e : xkOf xtab D C = some b) : PySem.W.exmOne K (.ref (He.ga K C)) (.ref (He.ga K D)) = some b ∧ PySem.W.kitOne K (.ref (He.ga K C)) (.ref (He.ga K D)) = some b := xtB_ok T.x_tab e
theorem Txt.xc (T : Txt P K mg fa fd) {D C : Str} {b : Bool} (e : xkOf xtab D C = some b) : ClsX K (He.ga K C) := xcB_ok T.x_cls e
theorem Txt.xv (T : Txt P K mg fa fd) {C : Str} {b : Bool} (e : xvOf xcls C = some b) : PySem.W.kitOne K (.ref (He.ga K C)) (.type "ValueError") = some b := xvB_ok T.x_cls e
theorem err_BadName (T : Txt P K mg fa fd) : ErrOk P w K mg base (He.ga K "BadName") "BadName" ["word"] := by
  obtain ⟨fdx, SD⟩ := T.S_BadName
  obtain ⟨fdb, FB⟩ := T.e_base
  have CL : ClsX K (He.ga K "BadName") := clsXB_ok (He.ba (List.all_eq_true.mp (He.ba T.x_cls).1 "BadName" (by decide))).1
  have SB : FnScope ["self", "code"] ["self", "code"] (defScope s_base) := ⟨rfl, rfl, rfl, by decide +kernel, rfl, by decide +kernel, by decide +kernel⟩
  have ob := ok_base (P := P) (w := w) (mg := mg) (base := base) FB SB
  have bb : Binds K fdb ["self", "code"] [] := FB.bindsN fun _ _ _ _ _ _ us hl => match us, hl with | [_, _], _ => rfl
  have S : NdefX.NScope ["self", "word", "__class__"] ["self", "word"] ["__class__"] (supNF K w_BadName).scope := show NdefX.NScope ["self", "word", "__class__"] ["self", "word"] ["__class__"] (defScope s_kBadName) from NdefX.nscope_by (by decide +kernel)
  refine ⟨oexB_ok T.o_BadName, supAt K "BadName", fdx, ["self", "word"], (initB_ok T.n_BadName).1, (initB_ok T.n_BadName).2, ?_, SD.binds fun _ _ _ us hl => match us, hl with | [_, _], _ => rfl⟩
  exact ok_sub (k := 1) (w := w) (mg := mg) (base := base) (l := [(("word" : Str), 1)]) S SD (oexB_ok T.o_BadName) T.top_ T.b_super (show List.lookup ("super" : Str) (defScope s_kBadName).names = some .globalImplicit from by decide +kernel) rfl rfl ob bb rfl (fun _ => rfl) (fun _ => rfl) rfl (by decide) (fun i q hq => by
    match i, hq with
    | 0, h => cases h; rfl
    | (n + 1), h => simp at h) (CL.no _ (by decide)) (fun q hq => CL.no _ (by simp only [List.mem_cons, List.not_mem_nil, or_false] at hq; rcases hq with rfl <;> decide)) (fun A outer s H E => pss_cons (ps_ost (pv 0) (pv 1)) (pss_nil))
theorem err_Taken (T : Txt P K mg fa fd) : ErrOk P w K mg base (He.ga K "Taken") "Taken" ["word"] := by
  obtain ⟨fdx, SD⟩ := T.S_Taken
  obtain ⟨fdb, FB⟩ := T.e_base
  have CL : ClsX K (He.ga K "Taken") := clsXB_ok (He.ba (List.all_eq_true.mp (He.ba T.x_cls).1 "Taken" (by decide))).1
  have SB : FnScope ["self", "code"] ["self", "code"] (defScope s_base) := ⟨rfl, rfl, rfl, by decide +kernel, rfl, by decide +kernel, by decide +kernel⟩
  have ob := ok_base (P := P) (w := w) (mg := mg) (base := base) FB SB
  have bb : Binds K fdb ["self", "code"] [] := FB.bindsN fun _ _ _ _ _ _ us hl => match us, hl with | [_, _], _ => rfl
  have S : NdefX.NScope ["self", "word", "__class__"] ["self", "word"] ["__class__"] (supNF K w_Taken).scope := show NdefX.NScope ["self", "word", "__class__"] ["self", "word"] ["__class__"] (defScope s_kTaken) from NdefX.nscope_by (by decide +kernel)
  refine ⟨oexB_ok T.o_Taken, supAt K "Taken", fdx, ["self", "word"], (initB_ok T.n_Taken).1, (initB_ok T.n_Taken).2, ?_, SD.binds fun _ _ _ us hl => match us, hl with | [_, _], _ => rfl⟩
  exact ok_sub (k := 1) (w := w) (mg := mg) (base := base) (l := [(("word" : Str), 1)]) S SD (oexB_ok T.o_Taken) T.top_ T.b_super (show List.lookup ("super" : Str) (defScope s_kTaken).names = some .globalImplicit from by decide +kernel) rfl rfl ob bb rfl (fun _ => rfl) (fun _ => rfl) rfl (by decide) (fun i q hq => by
    match i, hq with
    | 0, h => cases h; rfl
    | (n + 1), h => simp at h) (CL.no _ (by decide)) (fun q hq => CL.no _ (by simp only [List.mem_cons, List.not_mem_nil, or_false] at hq; rcases hq with rfl <;> decide)) (fun A outer s H E => pss_cons (ps_ost (pv 0) (pv 1)) (pss_nil))
theorem err_TooMany (T : Txt P K mg fa fd) : ErrOk P w K mg base (He.ga K "TooMany") "TooMany" ["bound"] := by
  obtain ⟨fdx, SD⟩ := T.S_TooMany
  obtain ⟨fdb, FB⟩ := T.e_base
  have CL : ClsX K (He.ga K "TooMany") := clsXB_ok (He.ba (List.all_eq_true.mp (He.ba T.x_cls).1 "TooMany" (by decide))).1
  have SB : FnScope ["self", "code"] ["self", "code"] (defScope s_base) := ⟨rfl, rfl, rfl, by decide +kernel, rfl, by decide +kernel, by decide +kernel⟩
  have ob := ok_base (P := P) (w := w) (mg := mg) (base := base) FB SB
  have bb : Binds K fdb ["self", "code"] [] := FB.bindsN fun _ _ _ _ _ _ us hl => match us, hl with | [_, _], _ => rfl
  have S : NdefX.NScope ["self", "bound", "__class__"] ["self", "bound"] ["__class__"] (supNF K w_TooMany).scope := show NdefX.NScope ["self", "bound", "__class__"] ["self", "bound"] ["__class__"] (defScope s_kTooMany) from NdefX.nscope_by (by decide +kernel)
  refine ⟨oexB_ok T.o_TooMany, supAt K "TooMany", fdx, ["self", "bound"], (initB_ok T.n_TooMany).1, (initB_ok T.n_TooMany).2, ?_, SD.binds fun _ _ _ us hl => match us, hl with | [_, _], _ => rfl⟩
  exact ok_sub (k := 1) (w := w) (mg := mg) (base := base) (l := [(("bound" : Str), 1)]) S SD (oexB_ok T.o_TooMany) T.top_ T.b_super (show List.lookup ("super" : Str) (defScope s_kTooMany).names = some .globalImplicit from by decide +kernel) rfl rfl ob bb rfl (fun _ => rfl) (fun _ => rfl) rfl (by decide) (fun i q hq => by
    match i, hq with
    | 0, h => cases h; rfl
    | (n + 1), h => simp at h) (CL.no _ (by decide)) (fun q hq => CL.no _ (by simp only [List.mem_cons, List.not_mem_nil, or_false] at hq; rcases hq with rfl <;> decide)) (fun A outer s H E => pss_cons (ps_ost (pv 0) (pv 1)) (pss_nil))
theorem err_NoHouse (T : Txt P K mg fa fd) : ErrOk P w K mg base (He.ga K "NoHouse") "NoHouse" ["word"] := by
  obtain ⟨fdx, SD⟩ := T.S_NoHouse
  obtain ⟨fdb, FB⟩ := T.e_base
  have CL : ClsX K (He.ga K "NoHouse") := clsXB_ok (He.ba (List.all_eq_true.mp (He.ba T.x_cls).1 "NoHouse" (by decide))).1
  have SB : FnScope ["self", "code"] ["self", "code"] (defScope s_base) := ⟨rfl, rfl, rfl, by decide +kernel, rfl, by decide +kernel, by decide +kernel⟩
  have ob := ok_base (P := P) (w := w) (mg := mg) (base := base) FB SB
  have bb : Binds K fdb ["self", "code"] [] := FB.bindsN fun _ _ _ _ _ _ us hl => match us, hl with | [_, _], _ => rfl
  have S : NdefX.NScope ["self", "word", "__class__"] ["self", "word"] ["__class__"] (supNF K w_NoHouse).scope := show NdefX.NScope ["self", "word", "__class__"] ["self", "word"] ["__class__"] (defScope s_kNoHouse) from NdefX.nscope_by (by decide +kernel)
  refine ⟨oexB_ok T.o_NoHouse, supAt K "NoHouse", fdx, ["self", "word"], (initB_ok T.n_NoHouse).1, (initB_ok T.n_NoHouse).2, ?_, SD.binds fun _ _ _ us hl => match us, hl with | [_, _], _ => rfl⟩
  exact ok_sub (k := 1) (w := w) (mg := mg) (base := base) (l := [(("word" : Str), 1)]) S SD (oexB_ok T.o_NoHouse) T.top_ T.b_super (show List.lookup ("super" : Str) (defScope s_kNoHouse).names = some .globalImplicit from by decide +kernel) rfl rfl ob bb rfl (fun _ => rfl) (fun _ => rfl) rfl (by decide) (fun i q hq => by
    match i, hq with
    | 0, h => cases h; rfl
    | (n + 1), h => simp at h) (CL.no _ (by decide)) (fun q hq => CL.no _ (by simp only [List.mem_cons, List.not_mem_nil, or_false] at hq; rcases hq with rfl <;> decide)) (fun A outer s H E => pss_cons (ps_ost (pv 0) (pv 1)) (pss_nil))
theorem err_SelfLine (T : Txt P K mg fa fd) : ErrOk P w K mg base (He.ga K "SelfLine") "SelfLine" ["word"] := by
  obtain ⟨fdx, SD⟩ := T.S_SelfLine
  obtain ⟨fdb, FB⟩ := T.e_base
  have CL : ClsX K (He.ga K "SelfLine") := clsXB_ok (He.ba (List.all_eq_true.mp (He.ba T.x_cls).1 "SelfLine" (by decide))).1
  have SB : FnScope ["self", "code"] ["self", "code"] (defScope s_base) := ⟨rfl, rfl, rfl, by decide +kernel, rfl, by decide +kernel, by decide +kernel⟩
  have ob := ok_base (P := P) (w := w) (mg := mg) (base := base) FB SB
  have bb : Binds K fdb ["self", "code"] [] := FB.bindsN fun _ _ _ _ _ _ us hl => match us, hl with | [_, _], _ => rfl
  have S : NdefX.NScope ["self", "word", "__class__"] ["self", "word"] ["__class__"] (supNF K w_SelfLine).scope := show NdefX.NScope ["self", "word", "__class__"] ["self", "word"] ["__class__"] (defScope s_kSelfLine) from NdefX.nscope_by (by decide +kernel)
  refine ⟨oexB_ok T.o_SelfLine, supAt K "SelfLine", fdx, ["self", "word"], (initB_ok T.n_SelfLine).1, (initB_ok T.n_SelfLine).2, ?_, SD.binds fun _ _ _ us hl => match us, hl with | [_, _], _ => rfl⟩
  exact ok_sub (k := 1) (w := w) (mg := mg) (base := base) (l := [(("word" : Str), 1)]) S SD (oexB_ok T.o_SelfLine) T.top_ T.b_super (show List.lookup ("super" : Str) (defScope s_kSelfLine).names = some .globalImplicit from by decide +kernel) rfl rfl ob bb rfl (fun _ => rfl) (fun _ => rfl) rfl (by decide) (fun i q hq => by
    match i, hq with
    | 0, h => cases h; rfl
    | (n + 1), h => simp at h) (CL.no _ (by decide)) (fun q hq => CL.no _ (by simp only [List.mem_cons, List.not_mem_nil, or_false] at hq; rcases hq with rfl <;> decide)) (fun A outer s H E => pss_cons (ps_ost (pv 0) (pv 1)) (pss_nil))
theorem err_NoLine (T : Txt P K mg fa fd) : ErrOk P w K mg base (He.ga K "NoLine") "NoLine" ["word"] := by
  obtain ⟨fdx, SD⟩ := T.S_NoLine
  obtain ⟨fdb, FB⟩ := T.e_base
  have CL : ClsX K (He.ga K "NoLine") := clsXB_ok (He.ba (List.all_eq_true.mp (He.ba T.x_cls).1 "NoLine" (by decide))).1
  have SB : FnScope ["self", "code"] ["self", "code"] (defScope s_base) := ⟨rfl, rfl, rfl, by decide +kernel, rfl, by decide +kernel, by decide +kernel⟩
  have ob := ok_base (P := P) (w := w) (mg := mg) (base := base) FB SB
  have bb : Binds K fdb ["self", "code"] [] := FB.bindsN fun _ _ _ _ _ _ us hl => match us, hl with | [_, _], _ => rfl
  have S : NdefX.NScope ["self", "word", "__class__"] ["self", "word"] ["__class__"] (supNF K w_NoLine).scope := show NdefX.NScope ["self", "word", "__class__"] ["self", "word"] ["__class__"] (defScope s_kNoLine) from NdefX.nscope_by (by decide +kernel)
  refine ⟨oexB_ok T.o_NoLine, supAt K "NoLine", fdx, ["self", "word"], (initB_ok T.n_NoLine).1, (initB_ok T.n_NoLine).2, ?_, SD.binds fun _ _ _ us hl => match us, hl with | [_, _], _ => rfl⟩
  exact ok_sub (k := 1) (w := w) (mg := mg) (base := base) (l := [(("word" : Str), 1)]) S SD (oexB_ok T.o_NoLine) T.top_ T.b_super (show List.lookup ("super" : Str) (defScope s_kNoLine).names = some .globalImplicit from by decide +kernel) rfl rfl ob bb rfl (fun _ => rfl) (fun _ => rfl) rfl (by decide) (fun i q hq => by
    match i, hq with
    | 0, h => cases h; rfl
    | (n + 1), h => simp at h) (CL.no _ (by decide)) (fun q hq => CL.no _ (by simp only [List.mem_cons, List.not_mem_nil, or_false] at hq; rcases hq with rfl <;> decide)) (fun A outer s H E => pss_cons (ps_ost (pv 0) (pv 1)) (pss_nil))
theorem sc_is_letter : FnScope ["character"] ["character"] (defScope s_is_letter) := ⟨rfl, rfl, rfl, by decide +kernel, rfl, by decide +kernel, by decide +kernel⟩
theorem ok_is_letter (T : Txt P K mg fa fd) : FnOk P w K mg base CX0 1 (fa 0) (fd 0) ["character"] (lowSp K sp_is_letter) := by
  refine fnok (t := t_is_letter ) T.F_is_letter sc_is_letter len_is_letter (fun cdv A outer s H E hr => ?_) pure_is_letter
  have hu := hu_of hr
  have nd := sc_is_letter.nd
  exact jb1 (js_ret (jchain ole ole (jstr) (jv 0) (jstr)))
theorem sc_is_digit : FnScope ["character"] ["character"] (defScope s_is_digit) := ⟨rfl, rfl, rfl, by decide +kernel, rfl, by decide +kernel, by decide +kernel⟩
theorem ok_is_digit (T : Txt P K mg fa fd) : FnOk P w K mg base CX0 1 (fa 1) (fd 1) ["character"] (lowSp K sp_is_digit) := by
  refine fnok (t := t_is_digit ) T.F_is_digit sc_is_digit len_is_digit (fun cdv A outer s H E hr => ?_) pure_is_digit
  have hu := hu_of hr
  have nd := sc_is_digit.nd
  exact jb1 (js_ret (jchain ole ole (jstr) (jv 0) (jstr)))
theorem sc_is_name : FnScope ["word", "character"] ["word"] (defScope s_is_name) := ⟨rfl, rfl, rfl, by decide +kernel, rfl, by decide +kernel, by decide +kernel⟩
theorem ok_is_name (T : Txt P K mg fa fd) : FnOk P w K mg base CX0 2 (fa 2) (fd 2) ["word"] (lowSp K sp_is_name) := by
  refine fnok (t := t_is_name sp_is_letter sp_is_digit) T.F_is_name sc_is_name len_is_name (fun cdv A outer s H E hr => ?_) pure_is_name
  have hu := hu_of hr
  have nd := sc_is_name.nd
  exact jb (js_if (jtnot (jtval (jcallF (cisi .str (by decide)) (by rfl) T.b_isinstance bb_isinstance (ja (jv 0) (ja (jbltn (by rfl) T.b_str bb_str) ja0)))))
    (jb1 (js_ret (jbl)))
    (jb0))
    (jb (js_if (jtnot (jtchain ole ole (jint) (jcallF clen (by rfl) T.b_len bb_len (ja (jv 0) (ja0))) (T.k_LONGEST_NAME (by rfl))))
    (jb1 (js_ret (jbl)))
    (jb0))
    (jb (js_if (jtnot (jtval (jcall ((ok_is_letter T).mono (by decide)) hr (by rfl) T.g_is_letter T.F_is_letter.kp T.bi_is_letter .nil (fun _ => .nil) pass0 (fun _ _ _ _ => ZE.none) (ja (jix (oix hu) (jv 0) (jint) (fun _ _ => rfl)) (ja0)))))
    (jb1 (js_ret (jbl)))
    (jb0))
    (jb1 (js_ret (jcallF (call_ rfl) (by rfl) T.b_all bb_all (ja (by exact jlc (own := [(("character" : Str), 1)]) rfl nd (ji_str (jv 0)) (blkOk_by (own := [(("character" : Str), 1)]) (N := [("word" : Str), ("character" : Str)]) (sc := defScope s_is_name) (by decide +kernel)) (gw_name (j := 1) (by decide)) (fun _ _ _ _ _ => (pg_name (i := 1) nd rfl (by first | exact Or.inl rfl | exact Or.inr rfl))) (fun _ _ _ _ _ => jts0) (fun _ _ _ _ _ => jor (jcall ((ok_is_letter T).mono (by decide)) hr (by rfl) T.g_is_letter T.F_is_letter.kp T.bi_is_letter .nil (fun _ => .nil) pass0 (fun _ _ _ _ => ZE.none) (ja (jv 1) (ja0))) (jone (jcall ((ok_is_digit T).mono (by decide)) hr (by rfl) T.g_is_digit T.F_is_digit.kp T.bi_is_digit .nil (fun _ => .nil) pass0 (fun _ _ _ _ => ZE.none) (ja (jv 1) (ja0)))))) (ja0)))))))
theorem sc_check_name : FnScope ["word"] ["word"] (defScope s_check_name) := ⟨rfl, rfl, rfl, by decide +kernel, rfl, by decide +kernel, by decide +kernel⟩
theorem ok_check_name (T : Txt P K mg fa fd) : FnOk P w K mg base (L2N.CX P w) 4 (fa 3) (fd 3) ["word"] (lowSp K sp_check_name) := by
  refine fnokR (t := t_check_name sp_is_name) T.F_check_name sc_check_name len_check_name (fun cdv A outer s H E ex W hr tk po => ?_) pure_check_name
  have hu := hu_of hr
  have nd := sc_check_name.nd
  exact jb (js_if (jtnot (jtval (jcall ((ok_is_name T).mono (by decide)) hr (by rfl) T.g_is_name T.F_is_name.kp T.bi_is_name .nil (fun _ => .nil) pass0 (fun _ _ _ _ => ZE.none) (ja (jv 0) (ja0)))))
    (jb1 (js_raise rfl tk (err_BadName T) (by decide) (hr.mono (by decide)) (by rfl) T.g_BadName (ja (jv 0) (ja0))))
    (jb0))
    (jb1 (js_ret (jv 0)))
theorem sc_check_houses : FnScope ["houses", "known", "house"] ["houses"] (defScope s_check_houses) := ⟨rfl, rfl, rfl, by decide +kernel, rfl, by decide +kernel, by decide +kernel⟩
theorem ok_check_houses (T : Txt P K mg fa fd) : FnOk P w K mg base (L2N.CX P w) 5 (fa 4) (fd 4) ["houses"] (lowSp K sp_check_houses) := by
  refine fnokR (t := t_check_houses sp_check_name) T.F_check_houses sc_check_houses len_check_houses (fun cdv A outer s H E ex W hr tk po => ?_) pure_check_houses
  have hu := hu_of hr
  have nd := sc_check_houses.nd
  exact jb (js_set (i := 1) nd rfl (by first | exact Or.inl rfl | exact Or.inr rfl) (jdnew))
    (jb (js_for po rfl (ji_lt (jv 0)) (kg (i := 2) nd rfl (by first | exact Or.inl rfl | exact Or.inr rfl))
    (jb (js_expr (jcallS ((ok_check_name T).mono (by decide)) tk hr (by rfl) T.g_check_name T.F_check_name.kp T.bi_check_name (ja (jv 2) (ja0))))
    (jb (js_if (jtcmp (oin hu) (jv 2) (jv 1) rfl)
    (jb1 (js_raise rfl tk (err_Taken T) (by decide) (hr.mono (by decide)) (by rfl) T.g_Taken (ja (jv 2) (ja0))))
    (jb0))
    (jb (js_if (jtcmp oge (jcallF clen (by rfl) T.b_len bb_len (ja (jv 1) (ja0))) (T.k_MOST_HOUSES (by rfl)) (nomark _))
    (jb1 (js_raise rfl tk (err_TooMany T) (by decide) (hr.mono (by decide)) (by rfl) T.g_TooMany (ja (T.k_MOST_HOUSES (by rfl)) (ja0))))
    (jb0))
    (jb1 (js_asg (jbl) (kgsub hu (jv 1) (jv 2))))))))
    (jb1 (js_ret (jcallF (csorted rfl hr.units65) (by rfl) T.b_sorted bb_sorted (ja (jv 1) (ja0))))))
theorem sc_ordered : FnScope ["a", "b"] ["a", "b"] (defScope s_ordered) := ⟨rfl, rfl, rfl, by decide +kernel, rfl, by decide +kernel, by decide +kernel⟩
theorem ok_ordered (T : Txt P K mg fa fd) : FnOk P w K mg base CX0 1 (fa 5) (fd 5) ["a", "b"] (lowSp K sp_ordered) := by
  refine fnok (t := t_ordered ) T.F_ordered sc_ordered len_ordered (fun cdv A outer s H E hr => ?_) pure_ordered
  have hu := hu_of hr
  have nd := sc_ordered.nd
  exact jb (js_if (jtcmp olt (jv 1) (jv 0) (nomark _))
    (jb1 (js_ret (jtup (ja (jv 1) (ja (jv 0) (ja0))))))
    (jb0))
    (jb1 (js_ret (jtup (ja (jv 0) (ja (jv 1) (ja0))))))
theorem sc_Web_lines : FnScope ["self"] ["self"] (defScope s_Web_lines) := ⟨rfl, rfl, rfl, by decide +kernel, rfl, by decide +kernel, by decide +kernel⟩
theorem ok_Web_lines (T : Txt P K mg fa fd) : FnOk P w K mg base CX0 1 (fa 16) (fd 16) ["self"] (lowSp K sp_Web_lines) := by
  refine fnok (t := t_Web_lines ) T.F_Web_lines sc_Web_lines len_Web_lines (fun cdv A outer s H E hr => ?_) pure_Web_lines
  have hu := hu_of hr
  have nd := sc_Web_lines.nd
  exact jb1 (js_ret (jcallT (clist rfl) (by rfl) T.b_list bb_list (ja (jfld T.c_Web T.n_Web_own_lines (jv 0) rfl) (ja0))))
theorem sc_Web_houses : FnScope ["self"] ["self"] (defScope s_Web_houses) := ⟨rfl, rfl, rfl, by decide +kernel, rfl, by decide +kernel, by decide +kernel⟩
theorem ok_Web_houses (T : Txt P K mg fa fd) : FnOk P w K mg base CX0 1 (fa 15) (fd 15) ["self"] (lowSp K sp_Web_houses) := by
  refine fnok (t := t_Web_houses ) T.F_Web_houses sc_Web_houses len_Web_houses (fun cdv A outer s H E hr => ?_) pure_Web_houses
  have hu := hu_of hr
  have nd := sc_Web_houses.nd
  exact jb1 (js_ret (jcallT (clist rfl) (by rfl) T.b_list bb_list (ja (jfld T.c_Web T.n_Web_own_houses (jv 0) rfl) (ja0))))
theorem sc_lines_by_house_plain : FnScope ["web", "without", "lines_of", "line", "low", "high", "house"] ["web", "without"] (defScope s_lines_by_house_plain) := ⟨rfl, rfl, rfl, by decide +kernel, rfl, by decide +kernel, by decide +kernel⟩
theorem ok_lines_by_house_plain (T : Txt P K mg fa fd) : FnOk P w K mg base CX0 3 (fa 6) (fd 6) ["web", "without"] (lowSp K sp_lines_by_house_plain) := by
  refine fnok (t := t_lines_by_house_plain sp_Web_lines sp_Web_houses) T.F_lines_by_house_plain sc_lines_by_house_plain len_lines_by_house_plain (fun cdv A outer s H E hr => ?_) pure_lines_by_house_plain
  have hu := hu_of hr
  have nd := sc_lines_by_house_plain.nd
  exact jb (by exact js_setDc (i := 2) (own := [(("house" : Str), 6)]) rfl nd rfl rfl (sw_trueD rfl rfl rfl (by decide +kernel)) (ji_list (jprop T.c_Web T.pr_Web_houses ((ok_Web_houses T).mono (by decide)) hr T.bi_Web_houses pass0 (fun _ _ _ _ => ZE.none) (jv 0) rfl)) (blkOk_by (own := [(("house" : Str), 6)]) (N := [("web" : Str), ("without" : Str), ("lines_of" : Str), ("line" : Str), ("low" : Str), ("high" : Str), ("house" : Str)]) (sc := defScope s_lines_by_house_plain) (by decide +kernel)) (gw_name (j := 6) (by decide)) (fun _ _ _ _ _ => (pg_name (i := 6) nd rfl (by first | exact Or.inl rfl | exact Or.inr rfl))) (fun _ _ _ _ _ => jts0) (fun _ _ _ _ _ => jv 6) (fun _ _ _ _ _ => jlst (ja0)))
    (jb (js_for PassesOwn.never rfl (ji_list (jprop T.c_Web T.pr_Web_lines ((ok_Web_lines T).mono (by decide)) hr T.bi_Web_lines pass0 (fun _ _ _ _ => ZE.none) (jv 0) rfl)) (kgtup rfl (kgs (kg (i := 3) nd rfl (by first | exact Or.inl rfl | exact Or.inr rfl)) (kgs (kg (i := 4) nd rfl (by first | exact Or.inl rfl | exact Or.inr rfl)) (kgs (kg (i := 5) nd rfl (by first | exact Or.inl rfl | exact Or.inr rfl)) (kg0)))))
    (jb1 (js_if (jtcmp (one_ hr.units) (jv 3) (jv 1) (nomark _))
    (jb (js_expr (jbm PySem.F.plainAttrs_list PySem.F.slot_list_append PySem.F.type_list_append mappend (jix (oix hu) (jv 2) (jv 4) (fun _ _ => rfl)) (ja (jtup (ja (jv 3) (ja (jv 5) (ja0)))) (ja0))))
    (jb1 (js_expr (jbm PySem.F.plainAttrs_list PySem.F.slot_list_append PySem.F.type_list_append mappend (jix (oix hu) (jv 2) (jv 5) (fun _ _ => rfl)) (ja (jtup (ja (jv 3) (ja (jv 4) (ja0)))) (ja0))))))
    (jb0))))
    (jb1 (js_ret (jv 2))))
theorem sc_step_counts : FnScope ["lines_of", "house", "counts", "queue", "place", "start", "spare", "stop"] ["lines_of", "house"] (defScope s_step_counts) := ⟨rfl, rfl, rfl, by decide +kernel, rfl, by decide +kernel, by decide +kernel⟩
theorem ok_step_counts (T : Txt P K mg fa fd) : FnOk P w K mg base CX0 1 (fa 7) (fd 7) ["lines_of", "house"] (lowSp K sp_step_counts) := by
  refine fnok (t := t_step_counts ) T.F_step_counts sc_step_counts len_step_counts (fun cdv A outer s H E hr => ?_) pure_step_counts
  have hu := hu_of hr
  have nd := sc_step_counts.nd
  exact jb (js_set (i := 2) nd rfl (by first | exact Or.inl rfl | exact Or.inr rfl) (jdisp (y := pe_disp (jpps (jv 1) (jint) (jpps0)) (by rfl) (by rfl) (fun z => by cases z) (by decide))))
    (jb (js_set (i := 3) nd rfl (by first | exact Or.inl rfl | exact Or.inr rfl) (jlst (ja (jv 1) (ja0))))
    (jb (js_set (i := 4) nd rfl (by first | exact Or.inl rfl | exact Or.inr rfl) (jint))
    (jb (js_while PassesOwn.never (jtcmp olt (jv 4) (jcallF clen (by rfl) T.b_len bb_len (ja (jv 3) (ja0))) (nomark _))
    (jb (js_set (i := 5) nd rfl (by first | exact Or.inl rfl | exact Or.inr rfl) (jix (oix hu) (jv 3) (jv 4) (fun _ _ => rfl)))
    (jb (js_for PassesOwn.never rfl (ji_list (jix (oix hu) (jv 0) (jv 5) (fun _ _ => rfl))) (kgtup rfl (kgs (kg (i := 6) nd rfl (by first | exact Or.inl rfl | exact Or.inr rfl)) (kgs (kg (i := 7) nd rfl (by first | exact Or.inl rfl | exact Or.inr rfl)) (kg0))))
    (jb1 (js_if (jtcmp (onotin hu) (jv 7) (jv 2) rfl)
    (jb (js_asg (jop oadd (jix (oix hu) (jv 2) (jv 5) (fun _ _ => rfl)) (jint)) (kgsub hu (jv 2) (jv 7)))
    (jb1 (js_expr (jbm PySem.F.plainAttrs_list PySem.F.slot_list_append PySem.F.type_list_append mappend (jv 3) (ja (jv 7) (ja0))))))
    (jb0))))
    (jb1 (js_augI (i := 4) nd rfl (by first | exact Or.inl rfl | exact Or.inr rfl) (jint) ip_add)))))
    (jb1 (js_ret (jv 2))))))
theorem sc_find_parts : FnScope ["web", "lines_of", "seen", "parts", "house", "part", "member"] ["web"] (defScope s_find_parts) := ⟨rfl, rfl, rfl, by decide +kernel, rfl, by decide +kernel, by decide +kernel⟩
theorem ok_find_parts (T : Txt P K mg fa fd) : FnOk P w K mg base CX0 4 (fa 8) (fd 8) ["web"] (lowSp K sp_find_parts) := by
  refine fnok (t := t_find_parts sp_lines_by_house_plain sp_Web_houses sp_step_counts) T.F_find_parts sc_find_parts len_find_parts (fun cdv A outer s H E hr => ?_) pure_find_parts
  have hu := hu_of hr
  have nd := sc_find_parts.nd
  exact jb (js_set (i := 1) nd rfl (by first | exact Or.inl rfl | exact Or.inr rfl) (jcall ((ok_lines_by_house_plain T).mono (by decide)) hr (by rfl) T.g_lines_by_house_plain T.F_lines_by_house_plain.kp T.bi_lines_by_house_plain .nil (fun _ => .nil) pass0 (fun _ _ _ _ => ZE.none) (ja (jv 0) (ja (jnon) (ja0)))))
    (jb (js_set (i := 2) nd rfl (by first | exact Or.inl rfl | exact Or.inr rfl) (jdnew))
    (jb (js_set (i := 3) nd rfl (by first | exact Or.inl rfl | exact Or.inr rfl) (jlst (ja0)))
    (jb (js_for PassesOwn.never rfl (ji_list (jprop T.c_Web T.pr_Web_houses ((ok_Web_houses T).mono (by decide)) hr T.bi_Web_houses pass0 (fun _ _ _ _ => ZE.none) (jv 0) rfl)) (kg (i := 4) nd rfl (by first | exact Or.inl rfl | exact Or.inr rfl))
    (jb1 (js_if (jtcmp (onotin hu) (jv 4) (jv 2) rfl)
    (jb (js_set (i := 5) nd rfl (by first | exact Or.inl rfl | exact Or.inr rfl) (jcallF (csorted rfl hr.units65) (by rfl) T.b_sorted bb_sorted (ja (jcall ((ok_step_counts T).mono (by decide)) hr (by rfl) T.g_step_counts T.F_step_counts.kp T.bi_step_counts .nil (fun _ => .nil) pass0 (fun _ _ _ _ => ZE.none) (ja (jv 1) (ja (jv 4) (ja0)))) (ja0))))
    (jb (js_for PassesOwn.never rfl (ji_list (jv 5)) (kg (i := 6) nd rfl (by first | exact Or.inl rfl | exact Or.inr rfl))
    (jb1 (js_asg (jbl) (kgsub hu (jv 2) (jv 6)))))
    (jb1 (js_expr (jbm PySem.F.plainAttrs_list PySem.F.slot_list_append PySem.F.type_list_append mappend (jv 3) (ja (jv 5) (ja0)))))))
    (jb0))))
    (jb1 (js_ret (jv 3))))))
theorem sc_merge_names : FnScope ["names", "a", "b", "keep", "gone", "house"] ["names", "a", "b"] (defScope s_merge_names) := ⟨rfl, rfl, rfl, by decide +kernel, rfl, by decide +kernel, by decide +kernel⟩
theorem ok_merge_names (T : Txt P K mg fa fd) : FnOk P w K mg base CX0 2 (fa 9) (fd 9) ["names", "a", "b"] (lowSp K sp_merge_names) := by
  refine fnok (t := t_merge_names sp_ordered) T.F_merge_names sc_merge_names len_merge_names (fun cdv A outer s H E hr => ?_) pure_merge_names
  have hu := hu_of hr
  have nd := sc_merge_names.nd
  exact jb (js_asg (jcall ((ok_ordered T).mono (by decide)) hr (by rfl) T.g_ordered T.F_ordered.kp T.bi_ordered .nil (fun _ => .nil) pass0 (fun _ _ _ _ => ZE.none) (ja (jix (oix hu) (jv 0) (jv 1) (fun _ _ => rfl)) (ja (jix (oix hu) (jv 0) (jv 2) (fun _ _ => rfl)) (ja0)))) (kgtup rfl (kgs (kg (i := 3) nd rfl (by first | exact Or.inl rfl | exact Or.inr rfl)) (kgs (kg (i := 4) nd rfl (by first | exact Or.inl rfl | exact Or.inr rfl)) (kg0)))))
    (jb (js_if (jtcmp (oeq hr.units) (jv 3) (jv 4) (nomark _))
    (jb1 (js_ret (jbl)))
    (jb0))
    (jb (js_for PassesOwn.never rfl (ji_list (jcallT (clist rfl) (by rfl) T.b_list bb_list (ja (jv 0) (ja0)))) (kg (i := 5) nd rfl (by first | exact Or.inl rfl | exact Or.inr rfl))
    (jb1 (js_if (jtcmp (oeq hr.units) (jix (oix hu) (jv 0) (jv 5) (fun _ _ => rfl)) (jv 4) (nomark _))
    (jb1 (js_asg (jv 3) (kgsub hu (jv 0) (jv 5))))
    (jb0))))
    (jb1 (js_ret (jbl)))))
theorem sc_check_new_line : FnScope ["line", "a", "b", "houses", "lines"] ["line", "a", "b", "houses", "lines"] (defScope s_check_new_line) := ⟨rfl, rfl, rfl, by decide +kernel, rfl, by decide +kernel, by decide +kernel⟩
theorem ok_check_new_line (T : Txt P K mg fa fd) : FnOk P w K mg base (L2N.CX P w) 5 (fa 10) (fd 10) ["line", "a", "b", "houses", "lines"] (lowSp K sp_check_new_line) := by
  refine fnokR (t := t_check_new_line sp_check_name) T.F_check_new_line sc_check_new_line len_check_new_line (fun cdv A outer s H E ex W hr tk po => ?_) pure_check_new_line
  have hu := hu_of hr
  have nd := sc_check_new_line.nd
  exact jb (js_expr (jcallS ((ok_check_name T).mono (by decide)) tk hr (by rfl) T.g_check_name T.F_check_name.kp T.bi_check_name (ja (jv 0) (ja0))))
    (jb (js_expr (jcallS ((ok_check_name T).mono (by decide)) tk hr (by rfl) T.g_check_name T.F_check_name.kp T.bi_check_name (ja (jv 1) (ja0))))
    (jb (js_expr (jcallS ((ok_check_name T).mono (by decide)) tk hr (by rfl) T.g_check_name T.F_check_name.kp T.bi_check_name (ja (jv 2) (ja0))))
    (jb (js_if (jtcmp (onotin hu) (jv 1) (jv 3) rfl)
    (jb1 (js_raise rfl tk (err_NoHouse T) (by decide) (hr.mono (by decide)) (by rfl) T.g_NoHouse (ja (jv 1) (ja0))))
    (jb0))
    (jb (js_if (jtcmp (onotin hu) (jv 2) (jv 3) rfl)
    (jb1 (js_raise rfl tk (err_NoHouse T) (by decide) (hr.mono (by decide)) (by rfl) T.g_NoHouse (ja (jv 2) (ja0))))
    (jb0))
    (jb (js_if (jtcmp (oeq hr.units) (jv 1) (jv 2) (nomark _))
    (jb1 (js_raise rfl tk (err_SelfLine T) (by decide) (hr.mono (by decide)) (by rfl) T.g_SelfLine (ja (jv 0) (ja0))))
    (jb0))
    (jb (js_if (jtcmp (oin hu) (jv 0) (jv 4) rfl)
    (jb1 (js_raise rfl tk (err_Taken T) (by decide) (hr.mono (by decide)) (by rfl) T.g_Taken (ja (jv 0) (ja0))))
    (jb0))
    (jb1 (js_if (jtcmp oge (jcallF clen (by rfl) T.b_len bb_len (ja (jv 4) (ja0))) (T.k_MOST_LINES (by rfl)) (nomark _))
    (jb1 (js_raise rfl tk (err_TooMany T) (by decide) (hr.mono (by decide)) (by rfl) T.g_TooMany (ja (T.k_MOST_LINES (by rfl)) (ja0))))
    (jb0)))))))))
theorem sc_line_tuples : FnScope ["pairs", "name"] ["pairs"] (defScope s_line_tuples) := ⟨rfl, rfl, rfl, by decide +kernel, rfl, by decide +kernel, by decide +kernel⟩
theorem ok_line_tuples (T : Txt P K mg fa fd) : FnOk P w K mg base CX0 1 (fa 11) (fd 11) ["pairs"] (lowSp K sp_line_tuples) := by
  refine fnok (t := t_line_tuples ) T.F_line_tuples sc_line_tuples len_line_tuples (fun cdv A outer s H E hr => ?_) pure_line_tuples
  have hu := hu_of hr
  have nd := sc_line_tuples.nd
  exact jb1 (js_ret (jcallT ctuple (by rfl) T.b_tuple bb_tuple (ja (by exact jlc (own := [(("name" : Str), 1)]) rfl nd (ji_list (jcallF (csorted rfl hr.units65) (by rfl) T.b_sorted bb_sorted (ja (jv 0) (ja0)))) (blkOk_by (own := [(("name" : Str), 1)]) (N := [("pairs" : Str), ("name" : Str)]) (sc := defScope s_line_tuples) (by decide +kernel)) (gw_name (j := 1) (by decide)) (fun _ _ _ _ _ => (pg_name (i := 1) nd rfl (by first | exact Or.inl rfl | exact Or.inr rfl))) (fun _ _ _ _ _ => jts0) (fun _ _ _ _ _ => jtup (ja (jv 1) (ja (jix (oix hu) (jix (oix hu) (jv 0) (jv 1) (fun _ _ => rfl)) (jint) (fun _ _ => rfl)) (ja (jix (oix hu) (jix (oix hu) (jv 0) (jv 1) (fun _ _ => rfl)) (jint) (fun _ _ => rfl)) (ja0)))))) (ja0))))
theorem sc_lines_by_house_webs : FnScope ["houses", "lines", "table", "name", "low", "high", "house"] ["houses", "lines"] (defScope s_lines_by_house_webs) := ⟨rfl, rfl, rfl, by decide +kernel, rfl, by decide +kernel, by decide +kernel⟩
theorem ok_lines_by_house_webs (T : Txt P K mg fa fd) : FnOk P w K mg base CX0 1 (fa 12) (fd 12) ["houses", "lines"] (lowSp K sp_lines_by_house_webs) := by
  refine fnok (t := t_lines_by_house_webs ) T.F_lines_by_house_webs sc_lines_by_house_webs len_lines_by_house_webs (fun cdv A outer s H E hr => ?_) pure_lines_by_house_webs
  have hu := hu_of hr
  have nd := sc_lines_by_house_webs.nd
  exact jb (by exact js_setDc (i := 2) (own := [(("house" : Str), 6)]) rfl nd rfl rfl (sw_trueD rfl rfl rfl (by decide +kernel)) (ji_tup (jv 0)) (blkOk_by (own := [(("house" : Str), 6)]) (N := [("houses" : Str), ("lines" : Str), ("table" : Str), ("name" : Str), ("low" : Str), ("high" : Str), ("house" : Str)]) (sc := defScope s_lines_by_house_webs) (by decide +kernel)) (gw_name (j := 6) (by decide)) (fun _ _ _ _ _ => (pg_name (i := 6) nd rfl (by first | exact Or.inl rfl | exact Or.inr rfl))) (fun _ _ _ _ _ => jts0) (fun _ _ _ _ _ => jv 6) (fun _ _ _ _ _ => jlst (ja0)))
    (jb (js_for PassesOwn.never rfl (ji_tup (jv 1)) (kgtup rfl (kgs (kg (i := 3) nd rfl (by first | exact Or.inl rfl | exact Or.inr rfl)) (kgs (kg (i := 4) nd rfl (by first | exact Or.inl rfl | exact Or.inr rfl)) (kgs (kg (i := 5) nd rfl (by first | exact Or.inl rfl | exact Or.inr rfl)) (kg0)))))
    (jb (js_expr (jbm PySem.F.plainAttrs_list PySem.F.slot_list_append PySem.F.type_list_append mappend (jix (oix hu) (jv 2) (jv 4) (fun _ _ => rfl)) (ja (jv 3) (ja0))))
    (jb1 (js_expr (jbm PySem.F.plainAttrs_list PySem.F.slot_list_append PySem.F.type_list_append mappend (jix (oix hu) (jv 2) (jv 5) (fun _ _ => rfl)) (ja (jv 3) (ja0)))))))
    (jb1 (js_ret (jv 2))))
theorem sc_Web_init : FnScope ["self", "houses", "lines", "names", "known", "pairs", "line", "a", "b", "house"] ["self", "houses", "lines"] (defScope s_Web_init) := ⟨rfl, rfl, rfl, by decide +kernel, rfl, by decide +kernel, by decide +kernel⟩
theorem ok_Web_init (T : Txt P K mg fa fd) : FnOk P w K mg base (L2N.CX P w) 6 (fa 14) (fd 14) ["self", "houses", "lines"] (lowSp K sp_Web_init) := by
  refine fnokR (t := t_Web_init sp_check_houses sp_line_tuples sp_lines_by_house_webs sp_check_new_line sp_ordered) T.F_Web_init sc_Web_init len_Web_init (fun cdv A outer s H E ex W hr tk po => ?_) pure_Web_init
  have hu := hu_of hr
  have nd := sc_Web_init.nd
  exact jb (js_set (i := 3) nd rfl (by first | exact Or.inl rfl | exact Or.inr rfl) (jcallS ((ok_check_houses T).mono (by decide)) tk hr (by rfl) T.g_check_houses T.F_check_houses.kp T.bi_check_houses (ja (jv 1) (ja0))))
    (jb (by exact js_setDc (i := 4) (own := [(("house" : Str), 9)]) rfl nd rfl rfl (sw_trueD rfl rfl rfl (by decide +kernel)) (ji_list (jv 3)) (blkOk_by (own := [(("house" : Str), 9)]) (N := [("self" : Str), ("houses" : Str), ("lines" : Str), ("names" : Str), ("known" : Str), ("pairs" : Str), ("line" : Str), ("a" : Str), ("b" : Str), ("house" : Str)]) (sc := defScope s_Web_init) (by decide +kernel)) (gw_name (j := 9) (by decide)) (fun _ _ _ _ _ => (pg_name (i := 9) nd rfl (by first | exact Or.inl rfl | exact Or.inr rfl))) (fun _ _ _ _ _ => jts0) (fun _ _ _ _ _ => jv 9) (fun _ _ _ _ _ => jbl))
    (jb (js_set (i := 5) nd rfl (by first | exact Or.inl rfl | exact Or.inr rfl) (jdnew))
    (jbG (js_for po rfl (ji_lt (jv 2)) (kgtl rfl (kgs (kg (i := 6) nd rfl (by first | exact Or.inl rfl | exact Or.inr rfl)) (kgs (kg (i := 7) nd rfl (by first | exact Or.inl rfl | exact Or.inr rfl)) (kgs (kg (i := 8) nd rfl (by first | exact Or.inl rfl | exact Or.inr rfl)) (kg0)))))
    (jb (js_expr (jcallS ((ok_check_new_line T).mono (by decide)) tk hr (by rfl) T.g_check_new_line T.F_check_new_line.kp T.bi_check_new_line (ja (jv 6) (ja (jv 7) (ja (jv 8) (ja (jv 4) (ja (jv 5) (ja0))))))))
    (jb1 (js_asg (jcall ((ok_ordered T).mono (by decide)) hr (by rfl) T.g_ordered T.F_ordered.kp T.bi_ordered .nil (fun _ => .nil) pass0 (fun _ _ _ _ => ZE.none) (ja (jv 7) (ja (jv 8) (ja0)))) (kgsub hu (jv 5) (jv 6))))))
    (jb (js_fld T.c_Web T.n_Web_own_houses (jv 0) (jcallT ctuple (by rfl) T.b_tuple bb_tuple (ja (jv 3) (ja0))) rfl)
    (jb (js_fld T.c_Web T.n_Web_own_pairs (jv 0) (jv 5) rfl)
    (jb (js_fld T.c_Web T.n_Web_own_lines (jv 0) (jcall ((ok_line_tuples T).mono (by decide)) hr (by rfl) T.g_line_tuples T.F_line_tuples.kp T.bi_line_tuples .nil (fun _ => .nil) pass0 (fun _ _ _ _ => ZE.none) (ja (jv 5) (ja0))) rfl)
    (jb1 (js_fld T.c_Web T.n_Web_own_near (jv 0) (jcall ((ok_lines_by_house_webs T).mono (by decide)) hr (by rfl) T.g_lines_by_house_webs T.F_lines_by_house_webs.kp T.bi_lines_by_house_webs .nil (fun _ => .nil) pass0 (fun _ _ _ _ => ZE.none) (ja (jfld T.c_Web T.n_Web_own_houses (jv 0) rfl) (ja (jfld T.c_Web T.n_Web_own_lines (jv 0) rfl) (ja0)))) rfl))))))))
theorem sc_checked_web : FnScope ["houses", "pairs", "web"] ["houses", "pairs"] (defScope s_checked_web) := ⟨rfl, rfl, rfl, by decide +kernel, rfl, by decide +kernel, by decide +kernel⟩
theorem ok_checked_web (T : Txt P K mg fa fd) : FnOk P w K mg base CX0 8 (fa 13) (fd 13) ["houses", "pairs"] (lowSp K sp_checked_web) := by
  refine fnok (t := t_checked_web sp_Web_init sp_line_tuples sp_lines_by_house_webs) T.F_checked_web sc_checked_web len_checked_web (fun cdv A outer s H E hr => ?_) pure_checked_web
  have hu := hu_of hr
  have nd := sc_checked_web.nd
  exact jb (js_set (i := 2) nd rfl (by first | exact Or.inl rfl | exact Or.inr rfl) (jmake0 T.mk_Web ((ok_Web_init T).mono (by decide)) hr (by rfl) T.g_Web (T.bd_Web_init_1).choose_spec.2 (T.bd_Web_init_1).choose_spec.1 (fun _ => .cons (T.et_Web_init_0 _) (.cons (T.et_Web_init_1 _) (.nil))) pass_none (fun _ _ _ _ => ZE.none)))
    (jb (js_fld T.c_Web T.n_Web_own_houses (jv 2) (jcallT ctuple (by rfl) T.b_tuple bb_tuple (ja (jv 0) (ja0))) rfl)
    (jb (js_fld T.c_Web T.n_Web_own_pairs (jv 2) (jv 1) rfl)
    (jb (js_fld T.c_Web T.n_Web_own_lines (jv 2) (jcall ((ok_line_tuples T).mono (by decide)) hr (by rfl) T.g_line_tuples T.F_line_tuples.kp T.bi_line_tuples .nil (fun _ => .nil) pass0 (fun _ _ _ _ => ZE.none) (ja (jv 1) (ja0))) rfl)
    (jb (js_fld T.c_Web T.n_Web_own_near (jv 2) (jcall ((ok_lines_by_house_webs T).mono (by decide)) hr (by rfl) T.g_lines_by_house_webs T.F_lines_by_house_webs.kp T.bi_lines_by_house_webs .nil (fun _ => .nil) pass0 (fun _ _ _ _ => ZE.none) (ja (jfld T.c_Web T.n_Web_own_houses (jv 2) rfl) (ja (jfld T.c_Web T.n_Web_own_lines (jv 2) rfl) (ja0)))) rfl)
    (jb1 (js_ret (jv 2)))))))
theorem sc_Web_with_line : FnScope ["self", "line", "a", "b", "pairs"] ["self", "line", "a", "b"] (defScope s_Web_with_line) := ⟨rfl, rfl, rfl, by decide +kernel, rfl, by decide +kernel, by decide +kernel⟩
theorem ok_Web_with_line (T : Txt P K mg fa fd) : FnOk P w K mg base (L2N.CX P w) 9 (fa 17) (fd 17) ["self", "line", "a", "b"] (lowSp K sp_Web_with_line) := by
  refine fnokR (t := t_Web_with_line sp_check_new_line sp_ordered sp_checked_web) T.F_Web_with_line sc_Web_with_line len_Web_with_line (fun cdv A outer s H E ex W hr tk po => ?_) pure_Web_with_line
  have hu := hu_of hr
  have nd := sc_Web_with_line.nd
  exact jb (js_expr (jcallS ((ok_check_new_line T).mono (by decide)) tk hr (by rfl) T.g_check_new_line T.F_check_new_line.kp T.bi_check_new_line (ja (jv 1) (ja (jv 2) (ja (jv 3) (ja (jfld T.c_Web T.n_Web_own_near (jv 0) rfl) (ja (jfld T.c_Web T.n_Web_own_pairs (jv 0) rfl) (ja0))))))))
    (jb (js_set (i := 4) nd rfl (by first | exact Or.inl rfl | exact Or.inr rfl) (jcallT cdict (by rfl) T.b_dict bb_dict (ja (jfld T.c_Web T.n_Web_own_pairs (jv 0) rfl) (ja0))))
    (jbG (js_asg (jcall ((ok_ordered T).mono (by decide)) hr (by rfl) T.g_ordered T.F_ordered.kp T.bi_ordered .nil (fun _ => .nil) pass0 (fun _ _ _ _ => ZE.none) (ja (jv 2) (ja (jv 3) (ja0)))) (kgsub hu (jv 4) (jv 1)))
    (jb1 (js_ret (jcall ((ok_checked_web T).mono (by decide)) hr (by rfl) T.g_checked_web T.F_checked_web.kp T.bi_checked_web .nil (fun _ => .nil) pass0 (fun _ _ _ _ => ZE.none) (ja (jfld T.c_Web T.n_Web_own_houses (jv 0) rfl) (ja (jv 4) (ja0))))))))
theorem sc_Web_without_line : FnScope ["self", "line", "pairs"] ["self", "line"] (defScope s_Web_without_line) := ⟨rfl, rfl, rfl, by decide +kernel, rfl, by decide +kernel, by decide +kernel⟩
theorem ok_Web_without_line (T : Txt P K mg fa fd) : FnOk P w K mg base (L2N.CX P w) 9 (fa 18) (fd 18) ["self", "line"] (lowSp K sp_Web_without_line) := by
  refine fnokR (t := t_Web_without_line sp_check_name sp_checked_web) T.F_Web_without_line sc_Web_without_line len_Web_without_line (fun cdv A outer s H E ex W hr tk po => ?_) pure_Web_without_line
  have hu := hu_of hr
  have nd := sc_Web_without_line.nd
  exact jb (js_expr (jcallS ((ok_check_name T).mono (by decide)) tk hr (by rfl) T.g_check_name T.F_check_name.kp T.bi_check_name (ja (jv 1) (ja0))))
    (jb (js_if (jtcmp (onotin hu) (jv 1) (jfld T.c_Web T.n_Web_own_pairs (jv 0) rfl) rfl)
    (jb1 (js_raise rfl tk (err_NoLine T) (by decide) (hr.mono (by decide)) (by rfl) T.g_NoLine (ja (jv 1) (ja0))))
    (jb0))
    (jb (js_set (i := 2) nd rfl (by first | exact Or.inl rfl | exact Or.inr rfl) (jcallT cdict (by rfl) T.b_dict bb_dict (ja (jfld T.c_Web T.n_Web_own_pairs (jv 0) rfl) (ja0))))
    (jbG (js_del (jv 2) (jv 1))
    (jb1 (js_ret (jcall ((ok_checked_web T).mono (by decide)) hr (by rfl) T.g_checked_web T.F_checked_web.kp T.bi_checked_web .nil (fun _ => .nil) pass0 (fun _ _ _ _ => ZE.none) (ja (jfld T.c_Web T.n_Web_own_houses (jv 0) rfl) (ja (jv 2) (ja0)))))))))
theorem sc_least_joins : FnScope ["web", "names", "part", "index", "name"] ["web"] (defScope s_least_joins) := ⟨rfl, rfl, rfl, by decide +kernel, rfl, by decide +kernel, by decide +kernel⟩
theorem ok_least_joins (T : Txt P K mg fa fd) : FnOk P w K mg base CX0 5 (fa 19) (fd 19) ["web"] (lowSp K sp_least_joins) := by
  refine fnok (t := t_least_joins sp_find_parts) T.F_least_joins sc_least_joins len_least_joins (fun cdv A outer s H E hr => ?_) pure_least_joins
  have hu := hu_of hr
  have nd := sc_least_joins.nd
  exact jb (js_set (i := 1) nd rfl (by first | exact Or.inl rfl | exact Or.inr rfl) (by exact jlc (own := [(("part" : Str), 2)]) rfl nd (ji_list (jcall ((ok_find_parts T).mono (by decide)) hr (by rfl) T.g_find_parts T.F_find_parts.kp T.bi_find_parts .nil (fun _ => .nil) pass0 (fun _ _ _ _ => ZE.none) (ja (jv 0) (ja0)))) (blkOk_by (own := [(("part" : Str), 2)]) (N := [("web" : Str), ("names" : Str), ("part" : Str), ("index" : Str), ("name" : Str)]) (sc := defScope s_least_joins) (by decide +kernel)) (gw_name (j := 2) (by decide)) (fun _ _ _ _ _ => (pg_name (i := 2) nd rfl (by first | exact Or.inl rfl | exact Or.inr rfl))) (fun _ _ _ _ _ => jts0) (fun _ _ _ _ _ => jix (oix hu) (jv 2) (jint) (fun _ _ => rfl))))
    (jb1 (js_ret (by exact jlc (own := [(("index" : Str), 3), (("name" : Str), 4)]) rfl nd (ji_enum (by rfl) T.b_enumerate (ja (jsl (jv 1) jo0 (jo (jun oneg (jint)))) (ja0))) (blkOk_by (own := [(("index" : Str), 3), (("name" : Str), 4)]) (N := [("web" : Str), ("names" : Str), ("part" : Str), ("index" : Str), ("name" : Str)]) (sc := defScope s_least_joins) (by decide +kernel)) (gw_names (js := [3, 4]) (by decide)) (fun _ _ _ _ _ => (pg_tup rfl (pgs_cons (pg_name (i := 3) nd rfl (by first | exact Or.inl rfl | exact Or.inr rfl)) (pgs_cons (pg_name (i := 4) nd rfl (by first | exact Or.inl rfl | exact Or.inr rfl)) (pgs_nil))))) (fun _ _ _ _ _ => jts0) (fun _ _ _ _ _ => jtup (ja (jv 4) (ja (jix (oix hu) (jv 1) (jop oadd (jv 3) (jint)) (fun _ _ => rfl)) (ja0)))))))
theorem sc_is_joins : FnScope ["web", "joins", "parts", "names", "part", "a", "b", "house"] ["web", "joins"] (defScope s_is_joins) := ⟨rfl, rfl, rfl, by decide +kernel, rfl, by decide +kernel, by decide +kernel⟩
theorem ok_is_joins (T : Txt P K mg fa fd) : FnOk P w K mg base CX0 5 (fa 20) (fd 20) ["web", "joins"] (lowSp K sp_is_joins) := by
  refine fnok (t := t_is_joins sp_find_parts sp_merge_names) T.F_is_joins sc_is_joins len_is_joins (fun cdv A outer s H E hr => ?_) pure_is_joins
  have hu := hu_of hr
  have nd := sc_is_joins.nd
  exact jb (js_set (i := 2) nd rfl (by first | exact Or.inl rfl | exact Or.inr rfl) (jcall ((ok_find_parts T).mono (by decide)) hr (by rfl) T.g_find_parts T.F_find_parts.kp T.bi_find_parts .nil (fun _ => .nil) pass0 (fun _ _ _ _ => ZE.none) (ja (jv 0) (ja0))))
    (jb (js_if (jtcmp (one_ hr.units) (jcallF clen (by rfl) T.b_len bb_len (ja (jv 1) (ja0))) (jcallF (cmax rfl hr.units65) (by rfl) T.b_max bb_max (ja (jint) (ja (jop osub (jcallF clen (by rfl) T.b_len bb_len (ja (jv 2) (ja0))) (jint)) (ja0)))) (nomark _))
    (jb1 (js_ret (jbl)))
    (jb0))
    (jb (js_set (i := 3) nd rfl (by first | exact Or.inl rfl | exact Or.inr rfl) (jdnew))
    (jb (js_for PassesOwn.never rfl (ji_list (jv 2)) (kg (i := 4) nd rfl (by first | exact Or.inl rfl | exact Or.inr rfl))
    (jb1 (js_for PassesOwn.never rfl (ji_list (jv 4)) (kg (i := 7) nd rfl (by first | exact Or.inl rfl | exact Or.inr rfl))
    (jb1 (js_asg (jix (oix hu) (jv 4) (jint) (fun _ _ => rfl)) (kgsub hu (jv 3) (jv 7)))))))
    (jb (js_for PassesOwn.never rfl (ji_list (jv 1)) (kgtup rfl (kgs (kg (i := 5) nd rfl (by first | exact Or.inl rfl | exact Or.inr rfl)) (kgs (kg (i := 6) nd rfl (by first | exact Or.inl rfl | exact Or.inr rfl)) (kg0))))
    (jb (js_if (PW.pt (jwor (jtcmp (onotin hu) (jv 5) (jv 3) rfl) (pw_or1 (jtcmp (onotin hu) (jv 6) (jv 3) rfl))))
    (jb1 (js_ret (jbl)))
    (jb0))
    (jb1 (js_if (jtnot (jtval (jcall ((ok_merge_names T).mono (by decide)) hr (by rfl) T.g_merge_names T.F_merge_names.kp T.bi_merge_names .nil (fun _ => .nil) pass0 (fun _ _ _ _ => ZE.none) (ja (jv 3) (ja (jv 5) (ja (jv 6) (ja0)))))))
    (jb1 (js_ret (jbl)))
    (jb0)))))
    (jb1 (js_ret (jbl)))))))
theorem sc_l_store : FnScope ["_law_script", "_law_cells", "_law_state", "_law_cell"] ["_law_script"] (defScope s_l_store) := ⟨rfl, rfl, rfl, by decide +kernel, rfl, by decide +kernel, by decide +kernel⟩
theorem ok_l_store (T : Txt P K mg fa fd) : FnOk P w K mg base CX0 1 (fa 21) (fd 21) ["_law_script"] (lowSp K sp_l_store) := by
  refine fnok (t := t_l_store ) T.F_l_store sc_l_store len_l_store (fun cdv A outer s H E hr => ?_) pure_l_store
  have hu := hu_of hr
  have nd := sc_l_store.nd
  exact jb (js_set (i := 1) nd rfl (by first | exact Or.inl rfl | exact Or.inr rfl) (jcallT (clist rfl) (by rfl) T.b_list bb_list (ja (jv 0) (ja0))))
    (jb (js_set (i := 2) nd rfl (by first | exact Or.inl rfl | exact Or.inr rfl) (jop oadd (jint) (jcallF clen (by rfl) T.b_len bb_len (ja (jv 1) (ja0)))))
    (jb (js_for PassesOwn.never rfl (ji_list (jv 1)) (kg (i := 3) nd rfl (by first | exact Or.inl rfl | exact Or.inr rfl))
    (jb1 (js_set (i := 2) nd rfl (by first | exact Or.inl rfl | exact Or.inr rfl) (jop omod (jop oadd (jop oadd (jop omul (jv 2) (jint)) (jop omod (jcallT cint (by rfl) T.b_int bb_int (ja (jv 3) (ja0))) (jint))) (jint)) (jint)))))
    (jb1 (js_ret (jlst (ja (jv 1) (ja (jint) (ja (jint) (ja (jv 2) (ja (jint) (ja0)))))))))))
theorem sc_l_take : FnScope ["_law_store_here", "_law_many", "_law_digits", "_law_tick", "_law_cells", "_law_place", "_law_cell", "_law_mixed_here"] ["_law_store_here", "_law_many"] (defScope s_l_take) := ⟨rfl, rfl, rfl, by decide +kernel, rfl, by decide +kernel, by decide +kernel⟩
theorem ok_l_take (T : Txt P K mg fa fd) : FnOk P w K mg base CX0 1 (fa 22) (fd 22) ["_law_store_here", "_law_many"] (lowSp K sp_l_take) := by
  refine fnok (t := t_l_take ) T.F_l_take sc_l_take len_l_take (fun cdv A outer s H E hr => ?_) pure_l_take
  have hu := hu_of hr
  have nd := sc_l_take.nd
  exact jb (js_if (jtcmp olt (jv 1) (jint) (nomark _))
    (jb1 (js_ret (jint)))
    (jb0))
    (jb (js_set (i := 2) nd rfl (by first | exact Or.inl rfl | exact Or.inr rfl) (jcallT cint (by rfl) T.b_int bb_int (ja (jix (oix hu) (jv 0) (jint) (fun _ _ => rfl)) (ja0))))
    (jb (js_if (jtcmp ogt (jv 2) (jint) (nomark _))
    (jb (js_asg (jop ofdiv (jv 2) (jv 1)) (kgsub hu (jv 0) (jint)))
    (jb1 (js_ret (jop omod (jv 2) (jv 1)))))
    (jb0))
    (jb (js_asg (jop oadd (jcallT cint (by rfl) T.b_int bb_int (ja (jix (oix hu) (jv 0) (jint) (fun _ _ => rfl)) (ja0))) (jint)) (kgsub hu (jv 0) (jint)))
    (jb (js_set (i := 3) nd rfl (by first | exact Or.inl rfl | exact Or.inr rfl) (jcallT cint (by rfl) T.b_int bb_int (ja (jix (oix hu) (jv 0) (jint) (fun _ _ => rfl)) (ja0))))
    (jb (js_set (i := 4) nd rfl (by first | exact Or.inl rfl | exact Or.inr rfl) (jix (oix hu) (jv 0) (jint) (fun _ _ => rfl)))
    (jb (js_set (i := 5) nd rfl (by first | exact Or.inl rfl | exact Or.inr rfl) (jcallT cint (by rfl) T.b_int bb_int (ja (jix (oix hu) (jv 0) (jint) (fun _ _ => rfl)) (ja0))))
    (jb (js_if (jtcmp olt (jv 5) (jcallF clen (by rfl) T.b_len bb_len (ja (jv 4) (ja0))) (nomark _))
    (jb (js_set (i := 6) nd rfl (by first | exact Or.inl rfl | exact Or.inr rfl) (jcallT cint (by rfl) T.b_int bb_int (ja (jix (oix hu) (jv 4) (jv 5) (fun _ _ => rfl)) (ja0))))
    (jb (js_asg (jop oadd (jv 5) (jint)) (kgsub hu (jv 0) (jint)))
    (jb (js_if (jtcmp oge (jv 6) (jop opow (jint) (jint)) (nomark _))
    (jb (js_asg (jop ofdiv (jv 6) (jv 1)) (kgsub hu (jv 0) (jint)))
    (jb1 (js_ret (jop omod (jv 6) (jv 1)))))
    (jb0))
    (jb1 (js_set (i := 7) nd rfl (by first | exact Or.inl rfl | exact Or.inr rfl) (jop omod (jop oadd (jop oadd (jop omul (jv 6) (jint)) (jop omul (jv 3) (jint))) (jint)) (jint)))))))
    (jb (js_set (i := 7) nd rfl (by first | exact Or.inl rfl | exact Or.inr rfl) (jop omod (jop oadd (jop oadd (jop omul (jcallT cint (by rfl) T.b_int bb_int (ja (jix (oix hu) (jv 0) (jint) (fun _ _ => rfl)) (ja0))) (jint)) (jop omul (jv 3) (jint))) (jint)) (jint)))
    (jb1 (js_asg (jv 7) (kgsub hu (jv 0) (jint))))))
    (jb1 (js_ret (jop omod (jop omod (jop oadd (jop omul (jv 7) (jv 7)) (jop ofdiv (jv 7) (jint))) (jint)) (jv 1)))))))))))
theorem sc_l_parts : FnScope ["_law_houses", "_law_lines", "_law_mark", "_law_house", "_law_line", "_law_parts_here", "_law_one", "_law_two", "_law_other"] ["_law_houses", "_law_lines"] (defScope s_l_parts) := ⟨rfl, rfl, rfl, by decide +kernel, rfl, by decide +kernel, by decide +kernel⟩
theorem ok_l_parts (T : Txt P K mg fa fd) : FnOk P w K mg base CX0 1 (fa 23) (fd 23) ["_law_houses", "_law_lines"] (lowSp K sp_l_parts) := by
  refine fnok (t := t_l_parts ) T.F_l_parts sc_l_parts len_l_parts (fun cdv A outer s H E hr => ?_) pure_l_parts
  have hu := hu_of hr
  have nd := sc_l_parts.nd
  exact jb (js_set (i := 2) nd rfl (by first | exact Or.inl rfl | exact Or.inr rfl) (jdnew))
    (jb (js_for PassesOwn.never rfl (ji_list (jv 0)) (kg (i := 3) nd rfl (by first | exact Or.inl rfl | exact Or.inr rfl))
    (jb1 (js_asg (jv 3) (kgsub hu (jv 2) (jv 3)))))
    (jb (js_for PassesOwn.never rfl (ji_list (jv 1)) (kg (i := 4) nd rfl (by first | exact Or.inl rfl | exact Or.inr rfl))
    (jb (js_set (i := 6) nd rfl (by first | exact Or.inl rfl | exact Or.inr rfl) (jix (oix hu) (jv 2) (jix (oix hu) (jv 4) (jint) (fun _ _ => rfl)) (fun _ _ => rfl)))
    (jb (js_set (i := 7) nd rfl (by first | exact Or.inl rfl | exact Or.inr rfl) (jix (oix hu) (jv 2) (jix (oix hu) (jv 4) (jint) (fun _ _ => rfl)) (fun _ _ => rfl)))
    (jb1 (js_if (jtcmp (one_ hr.units) (jv 6) (jv 7) (nomark _))
    (jb1 (js_for PassesOwn.never rfl (ji_list (jv 0)) (kg (i := 3) nd rfl (by first | exact Or.inl rfl | exact Or.inr rfl))
    (jb1 (js_if (PW.pt (jwor (jtcmp (oeq hr.units) (jix (oix hu) (jv 2) (jv 3) (fun _ _ => rfl)) (jv 6) (nomark _)) (pw_or1 (jtcmp (oeq hr.units) (jix (oix hu) (jv 2) (jv 3) (fun _ _ => rfl)) (jv 7) (nomark _)))))
    (jb1 (js_asg (jcallF (cmin rfl hr.units65) (by rfl) T.b_min bb_min (ja (jv 6) (ja (jv 7) (ja0)))) (kgsub hu (jv 2) (jv 3))))
    (jb0)))))
    (jb0))))))
    (jb (js_set (i := 5) nd rfl (by first | exact Or.inl rfl | exact Or.inr rfl) (jlst (ja0)))
    (jb (js_for PassesOwn.never rfl (ji_list (jcallF (csorted rfl hr.units65) (by rfl) T.b_sorted bb_sorted (ja (jv 0) (ja0)))) (kg (i := 3) nd rfl (by first | exact Or.inl rfl | exact Or.inr rfl))
    (jb1 (js_if (jtcmp (oeq hr.units) (jix (oix hu) (jv 2) (jv 3) (fun _ _ => rfl)) (jv 3) (nomark _))
    (jb1 (js_expr (jbm PySem.F.plainAttrs_list PySem.F.slot_list_append PySem.F.type_list_append mappend (jv 5) (ja (by exact jlc (own := [(("_law_other" : Str), 8)]) rfl nd (ji_list (jcallF (csorted rfl hr.units65) (by rfl) T.b_sorted bb_sorted (ja (jv 0) (ja0)))) (blkOk_by (own := [(("_law_other" : Str), 8)]) (N := [("_law_houses" : Str), ("_law_lines" : Str), ("_law_mark" : Str), ("_law_house" : Str), ("_law_line" : Str), ("_law_parts_here" : Str), ("_law_one" : Str), ("_law_two" : Str), ("_law_other" : Str)]) (sc := defScope s_l_parts) (by decide +kernel)) (gw_name (j := 8) (by decide)) (fun _ _ _ _ _ => (pg_name (i := 8) nd rfl (by first | exact Or.inl rfl | exact Or.inr rfl))) (fun _ _ _ _ _ => jts1 (jtcmp (oeq hr.units) (jix (oix hu) (jv 2) (jv 8) (fun _ _ => rfl)) (jv 3) (nomark _))) (fun _ _ _ _ _ => jv 8)) (ja0)))))
    (jb0))))
    (jb1 (js_ret (jv 5)))))))
theorem sc_l_without : FnScope ["_law_lines", "_law_name", "_law_line"] ["_law_lines", "_law_name"] (defScope s_l_without) := ⟨rfl, rfl, rfl, by decide +kernel, rfl, by decide +kernel, by decide +kernel⟩
theorem ok_l_without (T : Txt P K mg fa fd) : FnOk P w K mg base CX0 1 (fa 24) (fd 24) ["_law_lines", "_law_name"] (lowSp K sp_l_without) := by
  refine fnok (t := t_l_without ) T.F_l_without sc_l_without len_l_without (fun cdv A outer s H E hr => ?_) pure_l_without
  have hu := hu_of hr
  have nd := sc_l_without.nd
  exact jb1 (js_ret (by exact jlc (own := [(("_law_line" : Str), 2)]) rfl nd (ji_list (jv 0)) (blkOk_by (own := [(("_law_line" : Str), 2)]) (N := [("_law_lines" : Str), ("_law_name" : Str), ("_law_line" : Str)]) (sc := defScope s_l_without) (by decide +kernel)) (gw_name (j := 2) (by decide)) (fun _ _ _ _ _ => (pg_name (i := 2) nd rfl (by first | exact Or.inl rfl | exact Or.inr rfl))) (fun _ _ _ _ _ => jts1 (jtcmp (one_ hr.units) (jix (oix hu) (jv 2) (jint) (fun _ _ => rfl)) (jv 1) (nomark _))) (fun _ _ _ _ _ => jv 2)))
theorem sc_l_is_joins : FnScope ["_law_houses", "_law_lines", "_law_joins", "_law_pair"] ["_law_houses", "_law_lines", "_law_joins"] (defScope s_l_is_joins) := ⟨rfl, rfl, rfl, by decide +kernel, rfl, by decide +kernel, by decide +kernel⟩
theorem ok_l_is_joins (T : Txt P K mg fa fd) : FnOk P w K mg base CX0 2 (fa 25) (fd 25) ["_law_houses", "_law_lines", "_law_joins"] (lowSp K sp_l_is_joins) := by
  refine fnok (t := t_l_is_joins sp_l_parts) T.F_l_is_joins sc_l_is_joins len_l_is_joins (fun cdv A outer s H E hr => ?_) pure_l_is_joins
  have hu := hu_of hr
  have nd := sc_l_is_joins.nd
  exact jb (js_for PassesOwn.never rfl (ji_list (jv 2)) (kg (i := 3) nd rfl (by first | exact Or.inl rfl | exact Or.inr rfl))
    (jb1 (js_if (PW.pt (jwor (jtcmp (oeq hr.units) (jix (oix hu) (jv 3) (jint) (fun _ _ => rfl)) (jix (oix hu) (jv 3) (jint) (fun _ _ => rfl)) (nomark _)) (jwor (jtcmp (onotin hu) (jix (oix hu) (jv 3) (jint) (fun _ _ => rfl)) (jv 0) rfl) (pw_or1 (jtcmp (onotin hu) (jix (oix hu) (jv 3) (jint) (fun _ _ => rfl)) (jv 0) rfl)))))
    (jb1 (js_ret (jbl)))
    (jb0))))
    (jb (js_if (jtcmp (one_ hr.units) (jcallF clen (by rfl) T.b_len bb_len (ja (jv 2) (ja0))) (jcallF (cmax rfl hr.units65) (by rfl) T.b_max bb_max (ja (jint) (ja (jop osub (jcallF clen (by rfl) T.b_len bb_len (ja (jcall ((ok_l_parts T).mono (by decide)) hr (by rfl) T.g_l_parts T.F_l_parts.kp T.bi_l_parts .nil (fun _ => .nil) pass0 (fun _ _ _ _ => ZE.none) (ja (jv 0) (ja (jv 1) (ja0)))) (ja0))) (jint)) (ja0)))) (nomark _))
    (jb1 (js_ret (jbl)))
    (jb0))
    (jb1 (js_ret (jcmp ole (jcallF clen (by rfl) T.b_len bb_len (ja (jcall ((ok_l_parts T).mono (by decide)) hr (by rfl) T.g_l_parts T.F_l_parts.kp T.bi_l_parts .nil (fun _ => .nil) pass0 (fun _ _ _ _ => ZE.none) (ja (jv 0) (ja (jop oadd (jv 1) (by exact jlc (own := [(("_law_pair" : Str), 3)]) rfl nd (ji_list (jv 2)) (blkOk_by (own := [(("_law_pair" : Str), 3)]) (N := [("_law_houses" : Str), ("_law_lines" : Str), ("_law_joins" : Str), ("_law_pair" : Str)]) (sc := defScope s_l_is_joins) (by decide +kernel)) (gw_name (j := 3) (by decide)) (fun _ _ _ _ _ => (pg_name (i := 3) nd rfl (by first | exact Or.inl rfl | exact Or.inr rfl))) (fun _ _ _ _ _ => jts0) (fun _ _ _ _ _ => jtup (ja (jstr) (ja (jix (oix hu) (jv 3) (jint) (fun _ _ => rfl)) (ja (jix (oix hu) (jv 3) (jint) (fun _ _ => rfl)) (ja0))))))) (ja0)))) (ja0))) (jint) (nomark _)))))
theorem sc_l_mixed : FnScope ["_law_store_here", "_law_items", "_law_row", "_law_k", "_law_at"] ["_law_store_here", "_law_items"] (defScope s_l_mixed) := ⟨rfl, rfl, rfl, by decide +kernel, rfl, by decide +kernel, by decide +kernel⟩
theorem ok_l_mixed (T : Txt P K mg fa fd) : FnOk P w K mg base CX0 2 (fa 26) (fd 26) ["_law_store_here", "_law_items"] (lowSp K sp_l_mixed) := by
  refine fnok (t := t_l_mixed sp_l_take) T.F_l_mixed sc_l_mixed len_l_mixed (fun cdv A outer s H E hr => ?_) pure_l_mixed
  have hu := hu_of hr
  have nd := sc_l_mixed.nd
  exact jb (js_set (i := 2) nd rfl (by first | exact Or.inl rfl | exact Or.inr rfl) (jcallT (clist rfl) (by rfl) T.b_list bb_list (ja (jv 1) (ja0))))
    (jb (js_for PassesOwn.never rfl (ji_range1 (by rfl) T.b_range (ja (jcallF clen (by rfl) T.b_len bb_len (ja (jv 2) (ja0))) (ja0))) (kg (i := 3) nd rfl (by first | exact Or.inl rfl | exact Or.inr rfl))
    (jb (js_set (i := 4) nd rfl (by first | exact Or.inl rfl | exact Or.inr rfl) (jop oadd (jv 3) (jcall ((ok_l_take T).mono (by decide)) hr (by rfl) T.g_l_take T.F_l_take.kp T.bi_l_take .nil (fun _ => .nil) pass0 (fun _ _ _ _ => ZE.none) (ja (jv 0) (ja (jop osub (jcallF clen (by rfl) T.b_len bb_len (ja (jv 2) (ja0))) (jv 3)) (ja0))))))
    (jb1 (js_asg (jtup (ja (jix (oix hu) (jv 2) (jv 4) (fun _ _ => rfl)) (ja (jix (oix hu) (jv 2) (jv 3) (fun _ _ => rfl)) (ja0)))) (kgtup rfl (kgs (kgsub hu (jv 2) (jv 3)) (kgs (kgsub hu (jv 2) (jv 4)) (kg0))))))))
    (jb1 (js_ret (jv 2))))
theorem sc_l_words : FnScope ["_law_store_here", "_law_many", "_law_signs", "_law_ahead", "_law_style", "_law_k", "_law_tail", "_law_start", "_law_step", "_law_names", "_law_code"] ["_law_store_here", "_law_many"] (defScope s_l_words) := ⟨rfl, rfl, rfl, by decide +kernel, rfl, by decide +kernel, by decide +kernel⟩
theorem ok_l_words (T : Txt P K mg fa fd) : FnOk P w K mg base CX0 3 (fa 27) (fd 27) ["_law_store_here", "_law_many"] (lowSp K sp_l_words) := by
  refine fnok (t := t_l_words sp_l_take sp_l_mixed) T.F_l_words sc_l_words len_l_words (fun cdv A outer s H E hr => ?_) pure_l_words
  have hu := hu_of hr
  have nd := sc_l_words.nd
  exact jb (js_set (i := 2) nd rfl (by first | exact Or.inl rfl | exact Or.inr rfl) (jstr))
    (jb (js_set (i := 3) nd rfl (by first | exact Or.inl rfl | exact Or.inr rfl) (jix (oix hu) (jv 2) (jop oadd (jint) (jcall ((ok_l_take T).mono (by decide)) hr (by rfl) T.g_l_take T.F_l_take.kp T.bi_l_take .nil (fun _ => .nil) pass0 (fun _ _ _ _ => ZE.none) (ja (jv 0) (ja (jint) (ja0))))) (fun _ _ => rfl)))
    (jb (js_set (i := 4) nd rfl (by first | exact Or.inl rfl | exact Or.inr rfl) (jcall ((ok_l_take T).mono (by decide)) hr (by rfl) T.g_l_take T.F_l_take.kp T.bi_l_take .nil (fun _ => .nil) pass0 (fun _ _ _ _ => ZE.none) (ja (jv 0) (ja (jint) (ja0)))))
    (jb (js_if (PW.pt (jwand (jtcmp (oeq hr.units) (jv 4) (jint) (nomark _)) (pw_and1 (jtcmp ole (jv 1) (jint) (nomark _)))))
    (jb1 (js_ret (jcall ((ok_l_mixed T).mono (by decide)) hr (by rfl) T.g_l_mixed T.F_l_mixed.kp T.bi_l_mixed .nil (fun _ => .nil) pass0 (fun _ _ _ _ => ZE.none) (ja (jv 0) (ja (by exact jlc (own := [(("_law_k" : Str), 5)]) rfl nd (ji_range1 (by rfl) T.b_range (ja (jv 1) (ja0))) (blkOk_by (own := [(("_law_k" : Str), 5)]) (N := [("_law_store_here" : Str), ("_law_many" : Str), ("_law_signs" : Str), ("_law_ahead" : Str), ("_law_style" : Str), ("_law_k" : Str), ("_law_tail" : Str), ("_law_start" : Str), ("_law_step" : Str), ("_law_names" : Str), ("_law_code" : Str)]) (sc := defScope s_l_words) (by decide +kernel)) (gw_name (j := 5) (by decide)) (fun _ _ _ _ _ => (pg_name (i := 5) nd rfl (by first | exact Or.inl rfl | exact Or.inr rfl))) (fun _ _ _ _ _ => jts0) (fun _ _ _ _ _ => jsl (jop omul (jv 3) (jint)) jo0 (jo (jop oadd (jv 5) (jint))))) (ja0))))))
    (jb0))
    (jb (js_for PassesOwn.never rfl (ji_range1 (by rfl) T.b_range (ja (jcall ((ok_l_take T).mono (by decide)) hr (by rfl) T.g_l_take T.F_l_take.kp T.bi_l_take .nil (fun _ => .nil) pass0 (fun _ _ _ _ => ZE.none) (ja (jv 0) (ja (jint) (ja0)))) (ja0))) (kg (i := 5) nd rfl (by first | exact Or.inl rfl | exact Or.inr rfl))
    (jb1 (js_set (i := 3) nd rfl (by first | exact Or.inl rfl | exact Or.inr rfl) (jop oadd (jv 3) (jix (oix hu) (jv 2) (jcall ((ok_l_take T).mono (by decide)) hr (by rfl) T.g_l_take T.F_l_take.kp T.bi_l_take .nil (fun _ => .nil) pass0 (fun _ _ _ _ => ZE.none) (ja (jv 0) (ja (jint) (ja0)))) (fun _ _ => rfl))))))
    (jb (js_set (i := 6) nd rfl (by first | exact Or.inl rfl | exact Or.inr rfl) (jop omul (jix (oix hu) (jv 2) (jcall ((ok_l_take T).mono (by decide)) hr (by rfl) T.g_l_take T.F_l_take.kp T.bi_l_take .nil (fun _ => .nil) pass0 (fun _ _ _ _ => ZE.none) (ja (jv 0) (ja (jint) (ja0)))) (fun _ _ => rfl)) (jcall ((ok_l_take T).mono (by decide)) hr (by rfl) T.g_l_take T.F_l_take.kp T.bi_l_take .nil (fun _ => .nil) pass0 (fun _ _ _ _ => ZE.none) (ja (jv 0) (ja (jint) (ja0))))))
    (jb (js_set (i := 7) nd rfl (by first | exact Or.inl rfl | exact Or.inr rfl) (jcall ((ok_l_take T).mono (by decide)) hr (by rfl) T.g_l_take T.F_l_take.kp T.bi_l_take .nil (fun _ => .nil) pass0 (fun _ _ _ _ => ZE.none) (ja (jv 0) (ja (jint) (ja0)))))
    (jb (js_set (i := 8) nd rfl (by first | exact Or.inl rfl | exact Or.inr rfl) (jix (oix hu) (jlst (ja (jint) (ja (jint) (ja (jint) (ja (jint) (ja0)))))) (jv 4) (fun _ _ => rfl)))
    (jb (js_set (i := 9) nd rfl (by first | exact Or.inl rfl | exact Or.inr rfl) (jlst (ja0)))
    (jb (js_for PassesOwn.never rfl (ji_range1 (by rfl) T.b_range (ja (jv 1) (ja0))) (kg (i := 5) nd rfl (by first | exact Or.inl rfl | exact Or.inr rfl))
    (jb (js_set (i := 10) nd rfl (by first | exact Or.inl rfl | exact Or.inr rfl) (jop omod (jcallT cint (by rfl) T.b_int bb_int (ja (jop oadd (jv 7) (jop omul (jv 5) (jv 8))) (ja0))) (jint)))
    (jb1 (js_expr (jbm PySem.F.plainAttrs_list PySem.F.slot_list_append PySem.F.type_list_append mappend (jv 9) (ja (jop oadd (jop oadd (jop oadd (jv 3) (jix (oix hu) (jv 2) (jop ofdiv (jv 10) (jint)) (fun _ _ => rfl))) (jix (oix hu) (jv 2) (jop omod (jcallT cint (by rfl) T.b_int bb_int (ja (jv 10) (ja0))) (jint)) (fun _ _ => rfl))) (jop omul (jv 6) (jop omod (jcallT cint (by rfl) T.b_int bb_int (ja (jv 10) (ja0))) (jint)))) (ja0)))))))
    (jb1 (js_ret (jcall ((ok_l_mixed T).mono (by decide)) hr (by rfl) T.g_l_mixed T.F_l_mixed.kp T.bi_l_mixed .nil (fun _ => .nil) pass0 (fun _ _ _ _ => ZE.none) (ja (jv 0) (ja (jv 9) (ja0)))))))))))))))
theorem sc_l_ends : FnScope ["_law_store_here", "_law_houses", "_law_shape", "_law_k", "_law_many", "_law_at", "_law_to"] ["_law_store_here", "_law_houses", "_law_shape", "_law_k"] (defScope s_l_ends) := ⟨rfl, rfl, rfl, by decide +kernel, rfl, by decide +kernel, by decide +kernel⟩
theorem ok_l_ends (T : Txt P K mg fa fd) : FnOk P w K mg base CX0 2 (fa 28) (fd 28) ["_law_store_here", "_law_houses", "_law_shape", "_law_k"] (lowSp K sp_l_ends) := by
  refine fnok (t := t_l_ends sp_l_take) T.F_l_ends sc_l_ends len_l_ends (fun cdv A outer s H E hr => ?_) pure_l_ends
  have hu := hu_of hr
  have nd := sc_l_ends.nd
  exact jb (js_set (i := 4) nd rfl (by first | exact Or.inl rfl | exact Or.inr rfl) (jcallF clen (by rfl) T.b_len bb_len (ja (jv 1) (ja0))))
    (jb (js_set (i := 5) nd rfl (by first | exact Or.inl rfl | exact Or.inr rfl) (jop omod (jcallT cint (by rfl) T.b_int bb_int (ja (jv 3) (ja0))) (jv 4)))
    (jb (js_set (i := 6) nd rfl (by first | exact Or.inl rfl | exact Or.inr rfl) (jop omod (jcallT cint (by rfl) T.b_int bb_int (ja (jop oadd (jv 5) (jint)) (ja0))) (jv 4)))
    (jb (js_if (jtcmp (oeq hr.units) (jv 2) (jint) (nomark _))
    (jb (js_set (i := 6) nd rfl (by first | exact Or.inl rfl | exact Or.inr rfl) (jop oadd (jint) (jop omod (jcallT cint (by rfl) T.b_int bb_int (ja (jv 3) (ja0))) (jop osub (jv 4) (jint)))))
    (jb1 (js_set (i := 5) nd rfl (by first | exact Or.inl rfl | exact Or.inr rfl) (jcall ((ok_l_take T).mono (by decide)) hr (by rfl) T.g_l_take T.F_l_take.kp T.bi_l_take .nil (fun _ => .nil) pass0 (fun _ _ _ _ => ZE.none) (ja (jv 0) (ja (jv 6) (ja0)))))))
    (jb0))
    (jb (js_if (jtcmp (oeq hr.units) (jv 2) (jint) (nomark _))
    (jb1 (js_set (i := 6) nd rfl (by first | exact Or.inl rfl | exact Or.inr rfl) (jop omod (jcallT cint (by rfl) T.b_int bb_int (ja (jop oadd (jop oadd (jv 5) (jint)) (jop ofdiv (jv 3) (jv 4))) (ja0))) (jv 4))))
    (jb0))
    (jb (js_if (PW.pt (jwor (jtcmp (oeq hr.units) (jv 2) (jint) (nomark _)) (pw_or1 (PW.pt (jwand (jtcmp (oeq hr.units) (jv 2) (jint) (nomark _)) (pw_and1 (jtcmp oge (jv 3) (jop osub (jv 4) (jint)) (nomark _))))))))
    (jb (js_set (i := 5) nd rfl (by first | exact Or.inl rfl | exact Or.inr rfl) (jcall ((ok_l_take T).mono (by decide)) hr (by rfl) T.g_l_take T.F_l_take.kp T.bi_l_take .nil (fun _ => .nil) pass0 (fun _ _ _ _ => ZE.none) (ja (jv 0) (ja (jv 4) (ja0)))))
    (jb1 (js_set (i := 6) nd rfl (by first | exact Or.inl rfl | exact Or.inr rfl) (jop omod (jcallT cint (by rfl) T.b_int bb_int (ja (jop oadd (jop oadd (jv 5) (jint)) (jcall ((ok_l_take T).mono (by decide)) hr (by rfl) T.g_l_take T.F_l_take.kp T.bi_l_take .nil (fun _ => .nil) pass0 (fun _ _ _ _ => ZE.none) (ja (jv 0) (ja (jv 4) (ja0))))) (ja0))) (jv 4)))))
    (jb0))
    (jb (js_if (PW.pt (jwand (jtcmp (oeq hr.units) (jv 2) (jint) (nomark _)) (pw_and1 (jtcmp ogt (jv 3) (jint) (nomark _)))))
    (jb1 (js_set (i := 6) nd rfl (by first | exact Or.inl rfl | exact Or.inr rfl) (jop omod (jcallT cint (by rfl) T.b_int bb_int (ja (jop oadd (jv 5) (jint)) (ja0))) (jv 4))))
    (jb0))
    (jb (js_if (jtcmp (oeq hr.units) (jv 5) (jv 6) (nomark _))
    (jb1 (js_set (i := 6) nd rfl (by first | exact Or.inl rfl | exact Or.inr rfl) (jop omod (jcallT cint (by rfl) T.b_int bb_int (ja (jop oadd (jv 5) (jint)) (ja0))) (jv 4))))
    (jb0))
    (jb1 (js_ret (jtup (ja (jcallF (cmin rfl hr.units65) (by rfl) T.b_min bb_min (ja (jix (oix hu) (jv 1) (jv 5) (fun _ _ => rfl)) (ja (jix (oix hu) (jv 1) (jv 6) (fun _ _ => rfl)) (ja0)))) (ja (jcallF (cmax rfl hr.units65) (by rfl) T.b_max bb_max (ja (jix (oix hu) (jv 1) (jv 5) (fun _ _ => rfl)) (ja (jix (oix hu) (jv 1) (jv 6) (fun _ _ => rfl)) (ja0)))) (ja0)))))))))))))
theorem sc_l_drawn_web : FnScope ["_law_store_here", "_law_most", "_law_many", "_law_count", "_law_style", "_law_houses", "_law_names", "_law_shape", "_law_lines", "_law_k", "_law_ends_here", "_law_name"] ["_law_store_here", "_law_most"] (defScope s_l_drawn_web) := ⟨rfl, rfl, rfl, by decide +kernel, rfl, by decide +kernel, by decide +kernel⟩
theorem ok_l_drawn_web (T : Txt P K mg fa fd) : FnOk P w K mg base CX0 4 (fa 29) (fd 29) ["_law_store_here", "_law_most"] (lowSp K sp_l_drawn_web) := by
  refine fnok (t := t_l_drawn_web sp_l_take sp_l_words sp_l_ends) T.F_l_drawn_web sc_l_drawn_web len_l_drawn_web (fun cdv A outer s H E hr => ?_) pure_l_drawn_web
  have hu := hu_of hr
  have nd := sc_l_drawn_web.nd
  exact jb (js_set (i := 2) nd rfl (by first | exact Or.inl rfl | exact Or.inr rfl) (jop oadd (jint) (jcall ((ok_l_take T).mono (by decide)) hr (by rfl) T.g_l_take T.F_l_take.kp T.bi_l_take .nil (fun _ => .nil) pass0 (fun _ _ _ _ => ZE.none) (ja (jv 0) (ja (jint) (ja0))))))
    (jb (js_set (i := 3) nd rfl (by first | exact Or.inl rfl | exact Or.inr rfl) (jcall ((ok_l_take T).mono (by decide)) hr (by rfl) T.g_l_take T.F_l_take.kp T.bi_l_take .nil (fun _ => .nil) pass0 (fun _ _ _ _ => ZE.none) (ja (jv 0) (ja (jint) (ja0)))))
    (jb (js_set (i := 4) nd rfl (by first | exact Or.inl rfl | exact Or.inr rfl) (jcall ((ok_l_take T).mono (by decide)) hr (by rfl) T.g_l_take T.F_l_take.kp T.bi_l_take .nil (fun _ => .nil) pass0 (fun _ _ _ _ => ZE.none) (ja (jv 0) (ja (jint) (ja0)))))
    (jb (js_if (jtcmp olt (jv 4) (jint) (nomark _))
    (jb1 (js_set (i := 2) nd rfl (by first | exact Or.inl rfl | exact Or.inr rfl) (jv 4)))
    (jb0))
    (jb (js_if (jtcmp (oeq hr.units) (jv 4) (jint) (nomark _))
    (jb (js_set (i := 2) nd rfl (by first | exact Or.inl rfl | exact Or.inr rfl) (jv 1))
    (jb1 (js_set (i := 3) nd rfl (by first | exact Or.inl rfl | exact Or.inr rfl) (jcall ((ok_l_take T).mono (by decide)) hr (by rfl) T.g_l_take T.F_l_take.kp T.bi_l_take .nil (fun _ => .nil) pass0 (fun _ _ _ _ => ZE.none) (ja (jv 0) (ja (jop oadd (jop omul (jint) (jv 1)) (jint)) (ja0)))))))
    (jb0))
    (jb (js_set (i := 5) nd rfl (by first | exact Or.inl rfl | exact Or.inr rfl) (jcall ((ok_l_words T).mono (by decide)) hr (by rfl) T.g_l_words T.F_l_words.kp T.bi_l_words .nil (fun _ => .nil) pass0 (fun _ _ _ _ => ZE.none) (ja (jv 0) (ja (jv 2) (ja0)))))
    (jb (js_set (i := 6) nd rfl (by first | exact Or.inl rfl | exact Or.inr rfl) (jcall ((ok_l_words T).mono (by decide)) hr (by rfl) T.g_l_words T.F_l_words.kp T.bi_l_words .nil (fun _ => .nil) pass0 (fun _ _ _ _ => ZE.none) (ja (jv 0) (ja (jv 3) (ja0)))))
    (jb (js_if (jtcmp (oeq hr.units) (jcall ((ok_l_take T).mono (by decide)) hr (by rfl) T.g_l_take T.F_l_take.kp T.bi_l_take .nil (fun _ => .nil) pass0 (fun _ _ _ _ => ZE.none) (ja (jv 0) (ja (jint) (ja0)))) (jint) (nomark _))
    (jb1 (js_set (i := 6) nd rfl (by first | exact Or.inl rfl | exact Or.inr rfl) (jop oadd (jv 5) (by exact jlc (own := [(("_law_name" : Str), 11)]) rfl nd (ji_list (jv 6)) (blkOk_by (own := [(("_law_name" : Str), 11)]) (N := [("_law_store_here" : Str), ("_law_most" : Str), ("_law_many" : Str), ("_law_count" : Str), ("_law_style" : Str), ("_law_houses" : Str), ("_law_names" : Str), ("_law_shape" : Str), ("_law_lines" : Str), ("_law_k" : Str), ("_law_ends_here" : Str), ("_law_name" : Str)]) (sc := defScope s_l_drawn_web) (by decide +kernel)) (gw_name (j := 11) (by decide)) (fun _ _ _ _ _ => (pg_name (i := 11) nd rfl (by first | exact Or.inl rfl | exact Or.inr rfl))) (fun _ _ _ _ _ => jts1 (jtcmp (onotin hu) (jv 11) (jv 5) rfl)) (fun _ _ _ _ _ => jv 11)))))
    (jb0))
    (jb (js_set (i := 7) nd rfl (by first | exact Or.inl rfl | exact Or.inr rfl) (jcall ((ok_l_take T).mono (by decide)) hr (by rfl) T.g_l_take T.F_l_take.kp T.bi_l_take .nil (fun _ => .nil) pass0 (fun _ _ _ _ => ZE.none) (ja (jv 0) (ja (jint) (ja0)))))
    (jb (js_set (i := 8) nd rfl (by first | exact Or.inl rfl | exact Or.inr rfl) (jlst (ja0)))
    (jb (js_for PassesOwn.never rfl (ji_range1 (by rfl) T.b_range (ja (jop omul (jv 3) (jcallT cint (by rfl) T.b_int bb_int (ja (jcmp ogt (jv 2) (jint) (nomark _)) (ja0)))) (ja0))) (kg (i := 9) nd rfl (by first | exact Or.inl rfl | exact Or.inr rfl))
    (jb (js_set (i := 10) nd rfl (by first | exact Or.inl rfl | exact Or.inr rfl) (jcall ((ok_l_ends T).mono (by decide)) hr (by rfl) T.g_l_ends T.F_l_ends.kp T.bi_l_ends .nil (fun _ => .nil) pass0 (fun _ _ _ _ => ZE.none) (ja (jv 0) (ja (jv 5) (ja (jv 7) (ja (jv 9) (ja0)))))))
    (jb1 (js_expr (jbm PySem.F.plainAttrs_list PySem.F.slot_list_append PySem.F.type_list_append mappend (jv 8) (ja (jtup (ja (jix (oix hu) (jv 6) (jv 9) (fun _ _ => rfl)) (ja (jix (oix hu) (jv 10) (jint) (fun _ _ => rfl)) (ja (jix (oix hu) (jv 10) (jint) (fun _ _ => rfl)) (ja0))))) (ja0)))))))
    (jb1 (js_ret (jtup (ja (jv 5) (ja (jv 8) (ja0))))))))))))))))
theorem sc_l_plain : FnScope ["_law_value", "_law_item"] ["_law_value"] (defScope s_l_plain) := ⟨rfl, rfl, rfl, by decide +kernel, rfl, by decide +kernel, by decide +kernel⟩
theorem body_l_plain (T : Txt P K mg fa fd) {k : Nat} {sp : Sp2} (hk : 0 ≤ k) (ih : FnOk P w K mg base CX0 k (fa 30) (fd 30) ["_law_value"] (lowSp K sp)) (cdv : Value) (A : Around) (outer : List Env) (s : Shared) (H : Hp) (E : XK) (hr : Room k (A.deeper (envOfC "_law_plain" (defScope s_l_plain) s.heap.objs.size (fa 30) cdv))) :
    B2 (cxOf CX0 P w K mg base ["_law_value", "_law_item"] "_law_plain" (defScope s_l_plain) (fa 30) cdv A outer s H E).nox Z0 (defBody s_l_plain) (t_l_plain  sp) := by
  have hu := hu_of hr
  have nd := sc_l_plain.nd
  exact jb (js_if (jtcmp ois (jv 0) (jnon) (nomark _))
    (jb1 (js_ret (jtup (ja (jstr) (ja (jstr) (ja0))))))
    (jb0))
    (jb (js_if (jtval (jcallF (cisi .bl (by decide)) (by rfl) T.b_isinstance bb_isinstance (ja (jv 0) (ja (jbltn (by rfl) T.b_bool bb_bool) ja0))))
    (jb1 (js_ret (jtup (ja (jstr) (ja (jcallT cstr (by rfl) T.b_str bb_str (ja (jv 0) (ja0))) (ja0))))))
    (jb0))
    (jb (js_if (jtval (jcallF (cisi .int (by decide)) (by rfl) T.b_isinstance bb_isinstance (ja (jv 0) (ja (jbltn (by rfl) T.b_int bb_int) ja0))))
    (jb1 (js_ret (jtup (ja (jstr) (ja (jv 0) (ja0))))))
    (jb0))
    (jb (js_if (jtval (jcallF (cisi .str (by decide)) (by rfl) T.b_isinstance bb_isinstance (ja (jv 0) (ja (jbltn (by rfl) T.b_str bb_str) ja0))))
    (jb1 (js_ret (jtup (ja (jstr) (ja (jv 0) (ja0))))))
    (jb0))
    (jb (js_if (jtval (jcallF (cisi .lst (by decide)) (by rfl) T.b_isinstance bb_isinstance (ja (jv 0) (ja (jbltn (by rfl) T.b_list bb_list) ja0))))
    (jb1 (js_ret (jtup (ja (jstr) (ja (jcallT ctuple (by rfl) T.b_tuple bb_tuple (ja (by exact jlc (own := [(("_law_item" : Str), 1)]) rfl nd (ji_list (jv 0)) (blkOk_by (own := [(("_law_item" : Str), 1)]) (N := [("_law_value" : Str), ("_law_item" : Str)]) (sc := defScope s_l_plain) (by decide +kernel)) (gw_name (j := 1) (by decide)) (fun _ _ _ _ _ => (pg_name (i := 1) nd rfl (by first | exact Or.inl rfl | exact Or.inr rfl))) (fun _ _ _ _ _ => jts0) (fun _ _ _ _ _ => jcall ih hr (by rfl) T.g_l_plain T.F_l_plain.kp T.bi_l_plain .nil (fun _ => .nil) pass0 (fun _ _ _ _ => ZE.none) (ja (jv 1) (ja0)))) (ja0))) (ja0))))))
    (jb0))
    (jb (js_if (jtval (jcallF (cisi .tup (by decide)) (by rfl) T.b_isinstance bb_isinstance (ja (jv 0) (ja (jbltn (by rfl) T.b_tuple bb_tuple) ja0))))
    (jb1 (js_ret (jtup (ja (jstr) (ja (jcallT ctuple (by rfl) T.b_tuple bb_tuple (ja (by exact jlc (own := [(("_law_item" : Str), 1)]) rfl nd (ji_tup (jv 0)) (blkOk_by (own := [(("_law_item" : Str), 1)]) (N := [("_law_value" : Str), ("_law_item" : Str)]) (sc := defScope s_l_plain) (by decide +kernel)) (gw_name (j := 1) (by decide)) (fun _ _ _ _ _ => (pg_name (i := 1) nd rfl (by first | exact Or.inl rfl | exact Or.inr rfl))) (fun _ _ _ _ _ => jts0) (fun _ _ _ _ _ => jcall ih hr (by rfl) T.g_l_plain T.F_l_plain.kp T.bi_l_plain .nil (fun _ => .nil) pass0 (fun _ _ _ _ => ZE.none) (ja (jv 1) (ja0)))) (ja0))) (ja0))))))
    (jb0))
    (jb1 (js_ret (jtup (ja (jstr) (ja (jstr) (ja0)))))))))))
theorem ok_l_plain (T : Txt P K mg fa fd) : FnOk P w K mg base CX0 7 (fa 30) (fd 30) ["_law_value"] (lowSp K sp_l_plain) := by
  have step : ∀ n, FnOk P w K mg base CX0 (n + 1) (fa 30) (fd 30) ["_law_value"] (lowSp K (spn_l_plain n)) := by
    intro n
    induction n with
    | zero => exact fnok (k := 0) (t := t_l_plain  (fun _ _ _ _ => False)) T.F_l_plain sc_l_plain (len_l_plain 0) (body_l_plain T (by decide) never) pure_l_plain_0
    | succ n ih =>
      have e : n + 1 + 1 = (n + 1) + 1 := by omega
      rw [e]
      exact fnok (k := n + 1) (t := t_l_plain  (spn_l_plain n)) T.F_l_plain sc_l_plain (len_l_plain (n + 1)) (body_l_plain T (by omega) ih) (pure_l_plain_s n)
  exact (step 6).mono (by decide)
theorem sc_l_passed : FnScope ["_law_store_here", "_law_lines", "_law_rows", "_law_line", "_law_back"] ["_law_store_here", "_law_lines"] (defScope s_l_passed) := ⟨rfl, rfl, rfl, by decide +kernel, rfl, by decide +kernel, by decide +kernel⟩
theorem ok_l_passed (T : Txt P K mg fa fd) : FnOk P w K mg base CX0 2 (fa 31) (fd 31) ["_law_store_here", "_law_lines"] (lowSp K sp_l_passed) := by
  refine fnok (t := t_l_passed sp_l_take) T.F_l_passed sc_l_passed len_l_passed (fun cdv A outer s H E hr => ?_) pure_l_passed
  have hu := hu_of hr
  have nd := sc_l_passed.nd
  exact jb (js_set (i := 2) nd rfl (by first | exact Or.inl rfl | exact Or.inr rfl) (jlst (ja0)))
    (jb (js_for PassesOwn.never rfl (ji_list (jv 1)) (kg (i := 3) nd rfl (by first | exact Or.inl rfl | exact Or.inr rfl))
    (jb (js_set (i := 4) nd rfl (by first | exact Or.inl rfl | exact Or.inr rfl) (jtup (ja (jix (oix hu) (jv 3) (jint) (fun _ _ => rfl)) (ja (jix (oix hu) (jv 3) (jint) (fun _ _ => rfl)) (ja (jix (oix hu) (jv 3) (jint) (fun _ _ => rfl)) (ja0))))))
    (jb1 (js_expr (jbm PySem.F.plainAttrs_list PySem.F.slot_list_append PySem.F.type_list_append mappend (jv 2) (ja (jix (oix hu) (jlst (ja (jv 3) (ja (jv 4) (ja (jcallT (clist rfl) (by rfl) T.b_list bb_list (ja (jv 3) (ja0))) (ja (jcallT (clist rfl) (by rfl) T.b_list bb_list (ja (jv 4) (ja0))) (ja0)))))) (jcall ((ok_l_take T).mono (by decide)) hr (by rfl) T.g_l_take T.F_l_take.kp T.bi_l_take .nil (fun _ => .nil) pass0 (fun _ _ _ _ => ZE.none) (ja (jv 0) (ja (jint) (ja0)))) (fun _ _ => rfl)) (ja0)))))))
    (jb1 (js_ret (jv 2))))
theorem sc_l_unused : FnScope ["_law_lines", "_law_names", "_law_line", "_law_word", "_law_k"] ["_law_lines"] (defScope s_l_unused) := ⟨rfl, rfl, rfl, by decide +kernel, rfl, by decide +kernel, by decide +kernel⟩
theorem ok_l_unused (T : Txt P K mg fa fd) : FnOk P w K mg base CX0 1 (fa 32) (fd 32) ["_law_lines"] (lowSp K sp_l_unused) := by
  refine fnok (t := t_l_unused ) T.F_l_unused sc_l_unused len_l_unused (fun cdv A outer s H E hr => ?_) pure_l_unused
  have hu := hu_of hr
  have nd := sc_l_unused.nd
  exact jb (js_set (i := 1) nd rfl (by first | exact Or.inl rfl | exact Or.inr rfl) (by exact jlc (own := [(("_law_line" : Str), 2)]) rfl nd (ji_list (jv 0)) (blkOk_by (own := [(("_law_line" : Str), 2)]) (N := [("_law_lines" : Str), ("_law_names" : Str), ("_law_line" : Str), ("_law_word" : Str), ("_law_k" : Str)]) (sc := defScope s_l_unused) (by decide +kernel)) (gw_name (j := 2) (by decide)) (fun _ _ _ _ _ => (pg_name (i := 2) nd rfl (by first | exact Or.inl rfl | exact Or.inr rfl))) (fun _ _ _ _ _ => jts0) (fun _ _ _ _ _ => jix (oix hu) (jv 2) (jint) (fun _ _ => rfl))))
    (jb1 (js_ret (jix (oix hu) (by exact jlc (own := [(("_law_word" : Str), 3)]) rfl nd (ji_list (by exact jlc (own := [(("_law_k" : Str), 4)]) rfl nd (ji_range1 (by rfl) T.b_range (ja (jint) (ja0))) (blkOk_by (own := [(("_law_k" : Str), 4)]) (N := [("_law_lines" : Str), ("_law_names" : Str), ("_law_line" : Str), ("_law_word" : Str), ("_law_k" : Str)]) (sc := defScope s_l_unused) (by decide +kernel)) (gw_name (j := 4) (by decide)) (fun _ _ _ _ _ => (pg_name (i := 4) nd rfl (by first | exact Or.inl rfl | exact Or.inr rfl))) (fun _ _ _ _ _ => jts0) (fun _ _ _ _ _ => jop oadd (jstr) (jcallT cstr (by rfl) T.b_str bb_str (ja (jv 4) (ja0)))))) (blkOk_by (own := [(("_law_word" : Str), 3)]) (N := [("_law_lines" : Str), ("_law_names" : Str), ("_law_line" : Str), ("_law_word" : Str), ("_law_k" : Str)]) (sc := defScope s_l_unused) (by decide +kernel)) (gw_name (j := 3) (by decide)) (fun _ _ _ _ _ => (pg_name (i := 3) nd rfl (by first | exact Or.inl rfl | exact Or.inr rfl))) (fun _ _ _ _ _ => jts1 (jtcmp (onotin hu) (jv 3) (jv 1) rfl)) (fun _ _ _ _ _ => jv 3)) (jint) (fun _ _ => rfl))))
theorem sc_l_any_joins : FnScope ["_law_store_here", "_law_parts_here", "_law_row", "_law_joins", "_law_k", "_law_other", "_law_one", "_law_two"] ["_law_store_here", "_law_parts_here"] (defScope s_l_any_joins) := ⟨rfl, rfl, rfl, by decide +kernel, rfl, by decide +kernel, by decide +kernel⟩
theorem ok_l_any_joins (T : Txt P K mg fa fd) : FnOk P w K mg base CX0 3 (fa 33) (fd 33) ["_law_store_here", "_law_parts_here"] (lowSp K sp_l_any_joins) := by
  refine fnok (t := t_l_any_joins sp_l_mixed sp_l_take) T.F_l_any_joins sc_l_any_joins len_l_any_joins (fun cdv A outer s H E hr => ?_) pure_l_any_joins
  have hu := hu_of hr
  have nd := sc_l_any_joins.nd
  exact jb (js_set (i := 2) nd rfl (by first | exact Or.inl rfl | exact Or.inr rfl) (jcall ((ok_l_mixed T).mono (by decide)) hr (by rfl) T.g_l_mixed T.F_l_mixed.kp T.bi_l_mixed .nil (fun _ => .nil) pass0 (fun _ _ _ _ => ZE.none) (ja (jv 0) (ja (jv 1) (ja0)))))
    (jb (js_set (i := 3) nd rfl (by first | exact Or.inl rfl | exact Or.inr rfl) (jlst (ja0)))
    (jb (js_for PassesOwn.never rfl (ji_range2 (by rfl) T.b_range (ja (jint) (ja (jcallF clen (by rfl) T.b_len bb_len (ja (jv 2) (ja0))) (ja0)))) (kg (i := 4) nd rfl (by first | exact Or.inl rfl | exact Or.inr rfl))
    (jb (js_set (i := 5) nd rfl (by first | exact Or.inl rfl | exact Or.inr rfl) (jix (oix hu) (jv 2) (jcall ((ok_l_take T).mono (by decide)) hr (by rfl) T.g_l_take T.F_l_take.kp T.bi_l_take .nil (fun _ => .nil) pass0 (fun _ _ _ _ => ZE.none) (ja (jv 0) (ja (jv 4) (ja0)))) (fun _ _ => rfl)))
    (jb (js_set (i := 6) nd rfl (by first | exact Or.inl rfl | exact Or.inr rfl) (jix (oix hu) (jv 5) (jcall ((ok_l_take T).mono (by decide)) hr (by rfl) T.g_l_take T.F_l_take.kp T.bi_l_take .nil (fun _ => .nil) pass0 (fun _ _ _ _ => ZE.none) (ja (jv 0) (ja (jcallF clen (by rfl) T.b_len bb_len (ja (jv 5) (ja0))) (ja0)))) (fun _ _ => rfl)))
    (jb (js_set (i := 7) nd rfl (by first | exact Or.inl rfl | exact Or.inr rfl) (jix (oix hu) (jix (oix hu) (jv 2) (jv 4) (fun _ _ => rfl)) (jcall ((ok_l_take T).mono (by decide)) hr (by rfl) T.g_l_take T.F_l_take.kp T.bi_l_take .nil (fun _ => .nil) pass0 (fun _ _ _ _ => ZE.none) (ja (jv 0) (ja (jcallF clen (by rfl) T.b_len bb_len (ja (jix (oix hu) (jv 2) (jv 4) (fun _ _ => rfl)) (ja0))) (ja0)))) (fun _ _ => rfl)))
    (jb1 (js_expr (jbm PySem.F.plainAttrs_list PySem.F.slot_list_append PySem.F.type_list_append mappend (jv 3) (ja (jix (oix hu) (jlst (ja (jtup (ja (jv 6) (ja (jv 7) (ja0)))) (ja (jtup (ja (jv 7) (ja (jv 6) (ja0)))) (ja0)))) (jcall ((ok_l_take T).mono (by decide)) hr (by rfl) T.g_l_take T.F_l_take.kp T.bi_l_take .nil (fun _ => .nil) pass0 (fun _ _ _ _ => ZE.none) (ja (jv 0) (ja (jint) (ja0)))) (fun _ _ => rfl)) (ja0)))))))))
    (jb1 (js_ret (jcall ((ok_l_mixed T).mono (by decide)) hr (by rfl) T.g_l_mixed T.F_l_mixed.kp T.bi_l_mixed .nil (fun _ => .nil) pass0 (fun _ _ _ _ => ZE.none) (ja (jv 0) (ja (jv 3) (ja0))))))))
theorem sc_l_bent_joins : FnScope ["_law_store_here", "_law_houses", "_law_joins", "_law_words_here", "_law_one", "_law_pair", "_law_at", "_law_style"] ["_law_store_here", "_law_houses", "_law_joins"] (defScope s_l_bent_joins) := ⟨rfl, rfl, rfl, by decide +kernel, rfl, by decide +kernel, by decide +kernel⟩
theorem ok_l_bent_joins (T : Txt P K mg fa fd) : FnOk P w K mg base CX0 2 (fa 34) (fd 34) ["_law_store_here", "_law_houses", "_law_joins"] (lowSp K sp_l_bent_joins) := by
  refine fnok (t := t_l_bent_joins sp_l_take) T.F_l_bent_joins sc_l_bent_joins len_l_bent_joins (fun cdv A outer s H E hr => ?_) pure_l_bent_joins
  have hu := hu_of hr
  have nd := sc_l_bent_joins.nd
  exact jb (js_set (i := 3) nd rfl (by first | exact Or.inl rfl | exact Or.inr rfl) (jop oadd (jv 1) (jlst (ja (jstr) (ja (jstr) (ja (jstr) (ja0)))))))
    (jb (js_set (i := 4) nd rfl (by first | exact Or.inl rfl | exact Or.inr rfl) (jix (oix hu) (jv 3) (jcall ((ok_l_take T).mono (by decide)) hr (by rfl) T.g_l_take T.F_l_take.kp T.bi_l_take .nil (fun _ => .nil) pass0 (fun _ _ _ _ => ZE.none) (ja (jv 0) (ja (jcallF clen (by rfl) T.b_len bb_len (ja (jv 3) (ja0))) (ja0)))) (fun _ _ => rfl)))
    (jb (js_set (i := 5) nd rfl (by first | exact Or.inl rfl | exact Or.inr rfl) (jtup (ja (jv 4) (ja (jix (oix hu) (jv 3) (jcall ((ok_l_take T).mono (by decide)) hr (by rfl) T.g_l_take T.F_l_take.kp T.bi_l_take .nil (fun _ => .nil) pass0 (fun _ _ _ _ => ZE.none) (ja (jv 0) (ja (jcallF clen (by rfl) T.b_len bb_len (ja (jv 3) (ja0))) (ja0)))) (fun _ _ => rfl)) (ja0)))))
    (jb (js_set (i := 6) nd rfl (by first | exact Or.inl rfl | exact Or.inr rfl) (jcall ((ok_l_take T).mono (by decide)) hr (by rfl) T.g_l_take T.F_l_take.kp T.bi_l_take .nil (fun _ => .nil) pass0 (fun _ _ _ _ => ZE.none) (ja (jv 0) (ja (jcallF clen (by rfl) T.b_len bb_len (ja (jv 2) (ja0))) (ja0)))))
    (jb (js_set (i := 7) nd rfl (by first | exact Or.inl rfl | exact Or.inr rfl) (jcall ((ok_l_take T).mono (by decide)) hr (by rfl) T.g_l_take T.F_l_take.kp T.bi_l_take .nil (fun _ => .nil) pass0 (fun _ _ _ _ => ZE.none) (ja (jv 0) (ja (jint) (ja0)))))
    (jb (js_if (jtcmp (oeq hr.units) (jv 7) (jint) (nomark _))
    (jb1 (js_ret (jop oadd (jsl (jv 2) jo0 (jo (jv 6))) (jsl (jv 2) (jo (jop oadd (jv 6) (jint))) jo0))))
    (jb0))
    (jb (js_if (jtcmp (oeq hr.units) (jv 7) (jint) (nomark _))
    (jb1 (js_ret (jop oadd (jop oadd (jsl (jv 2) jo0 (jo (jv 6))) (jlst (ja (jv 5) (ja0)))) (jsl (jv 2) (jo (jv 6)) jo0))))
    (jb0))
    (jb (js_if (jtcmp (oeq hr.units) (jv 7) (jint) (nomark _))
    (jb1 (js_ret (jop oadd (jv 2) (jsl (jv 2) (jo (jv 6)) (jo (jop oadd (jv 6) (jint)))))))
    (jb0))
    (jb (js_if (jtcmp (oeq hr.units) (jv 7) (jint) (nomark _))
    (jb1 (js_ret (jop oadd (jop oadd (jsl (jv 2) jo0 (jo (jv 6))) (jlst (ja (jtup (ja (jv 4) (ja (jv 4) (ja0)))) (ja0)))) (jsl (jv 2) (jo (jop oadd (jv 6) (jint))) jo0))))
    (jb0))
    (jb (js_if (jtcmp (oeq hr.units) (jv 7) (jint) (nomark _))
    (jb1 (js_ret (jop oadd (jop oadd (jsl (jv 2) jo0 (jo (jv 6))) (jsl (jv 2) jo0 (jo (jint)))) (jsl (jv 2) (jo (jop oadd (jv 6) (jint))) jo0))))
    (jb0))
    (jb1 (js_ret (jop oadd (jop oadd (jsl (jv 2) jo0 (jo (jv 6))) (jlst (ja (jv 5) (ja0)))) (jsl (jv 2) (jo (jop oadd (jv 6) (jint))) jo0)))))))))))))
theorem sc_l_judged : FnScope ["_law_web", "_law_houses", "_law_lines", "_law_joins", "_law_copy", "_law_due"] ["_law_web", "_law_houses", "_law_lines", "_law_joins"] (defScope s_l_judged) := ⟨rfl, rfl, rfl, by decide +kernel, rfl, by decide +kernel, by decide +kernel⟩
theorem ok_l_judged (T : Txt P K mg fa fd) : FnOk P w K mg base CX0 8 (fa 35) (fd 35) ["_law_web", "_law_houses", "_law_lines", "_law_joins"] (lowSp K sp_l_judged) := by
  refine fnok (t := t_l_judged sp_l_plain sp_l_is_joins sp_is_joins) T.F_l_judged sc_l_judged len_l_judged (fun cdv A outer s H E hr => ?_) pure_l_judged
  have hu := hu_of hr
  have nd := sc_l_judged.nd
  exact jb (js_set (i := 4) nd rfl (by first | exact Or.inl rfl | exact Or.inr rfl) (jcall ((ok_l_plain T).mono (by decide)) hr (by rfl) T.g_l_plain T.F_l_plain.kp T.bi_l_plain .nil (fun _ => .nil) pass0 (fun _ _ _ _ => ZE.none) (ja (jv 3) (ja0))))
    (jb (js_set (i := 5) nd rfl (by first | exact Or.inl rfl | exact Or.inr rfl) (jcall ((ok_l_is_joins T).mono (by decide)) hr (by rfl) T.g_l_is_joins T.F_l_is_joins.kp T.bi_l_is_joins .nil (fun _ => .nil) pass0 (fun _ _ _ _ => ZE.none) (ja (jv 1) (ja (jv 2) (ja (jv 3) (ja0))))))
    (jb1 (js_ret (jand (jcmp (oeq hr.units) (jcall ((ok_l_plain T).mono (by decide)) hr (by rfl) T.g_l_plain T.F_l_plain.kp T.bi_l_plain .nil (fun _ => .nil) pass0 (fun _ _ _ _ => ZE.none) (ja (jcall ((ok_is_joins T).mono (by decide)) hr (by rfl) T.g_is_joins T.F_is_joins.kp T.bi_is_joins .nil (fun _ => .nil) pass0 (fun _ _ _ _ => ZE.none) (ja (jv 0) (ja (jv 3) (ja0)))) (ja0))) (jcall ((ok_l_plain T).mono (by decide)) hr (by rfl) T.g_l_plain T.F_l_plain.kp T.bi_l_plain .nil (fun _ => .nil) pass0 (fun _ _ _ _ => ZE.none) (ja (jv 5) (ja0))) (nomark _)) (jone (jcmp (oeq hr.units) (jcall ((ok_l_plain T).mono (by decide)) hr (by rfl) T.g_l_plain T.F_l_plain.kp T.bi_l_plain .nil (fun _ => .nil) pass0 (fun _ _ _ _ => ZE.none) (ja (jv 3) (ja0))) (jv 4) (nomark _)))))))
theorem sc_l_joined_up : FnScope ["_law_web", "_law_joins", "_law_wider", "_law_pair"] ["_law_web", "_law_joins"] (defScope s_l_joined_up) := ⟨rfl, rfl, rfl, by decide +kernel, rfl, by decide +kernel, by decide +kernel⟩
theorem ok_l_joined_up (T : Txt P K mg fa fd) : FnOk P w K mg base CX0 10 (fa 36) (fd 36) ["_law_web", "_law_joins"] (lowSp K sp_l_joined_up) := by
  refine fnok (t := t_l_joined_up sp_Web_with_line sp_find_parts sp_l_unused sp_Web_lines) T.F_l_joined_up sc_l_joined_up len_l_joined_up (fun cdv A outer s H E hr => ?_) pure_l_joined_up
  have hu := hu_of hr
  have nd := sc_l_joined_up.nd
  exact jb (js_set (i := 2) nd rfl (by first | exact Or.inl rfl | exact Or.inr rfl) (jv 0))
    (jb (js_for PassesOwn.never rfl (ji_list (jv 1)) (kg (i := 3) nd rfl (by first | exact Or.inl rfl | exact Or.inr rfl))
    (jb1 (js_set (i := 2) nd rfl (by first | exact Or.inl rfl | exact Or.inr rfl) (jmeth (jv 2) T.c_Web T.me_Web_with_line ((ok_Web_with_line T).mono (by decide)) hr T.bi_Web_with_line .nil (fun _ => .nil) pass_none (fun _ _ _ _ => ZE.none) (ja (jcall ((ok_l_unused T).mono (by decide)) hr (by rfl) T.g_l_unused T.F_l_unused.kp T.bi_l_unused .nil (fun _ => .nil) pass0 (fun _ _ _ _ => ZE.none) (ja (jprop T.c_Web T.pr_Web_lines ((ok_Web_lines T).mono (by decide)) hr T.bi_Web_lines pass0 (fun _ _ _ _ => ZE.none) (jv 2) rfl) (ja0))) (ja (jix (oix hu) (jv 3) (jint) (fun _ _ => rfl)) (ja (jix (oix hu) (jv 3) (jint) (fun _ _ => rfl)) (ja0))))))))
    (jb1 (js_ret (jcallF clen (by rfl) T.b_len bb_len (ja (jcall ((ok_find_parts T).mono (by decide)) hr (by rfl) T.g_find_parts T.F_find_parts.kp T.bi_find_parts .nil (fun _ => .nil) pass0 (fun _ _ _ _ => ZE.none) (ja (jv 2) (ja0))) (ja0))))))
theorem sc_l_joins_hold : FnScope ["_law_web", "_law_houses", "_law_lines", "_law_names", "_law_due", "_law_told", "_law_k", "_law_part"] ["_law_web", "_law_houses", "_law_lines"] (defScope s_l_joins_hold) := ⟨rfl, rfl, rfl, by decide +kernel, rfl, by decide +kernel, by decide +kernel⟩
theorem ok_l_joins_hold (T : Txt P K mg fa fd) : FnOk P w K mg base CX0 11 (fa 37) (fd 37) ["_law_web", "_law_houses", "_law_lines"] (lowSp K sp_l_joins_hold) := by
  refine fnok (t := t_l_joins_hold sp_least_joins sp_l_plain sp_l_parts sp_is_joins sp_l_joined_up) T.F_l_joins_hold sc_l_joins_hold len_l_joins_hold (fun cdv A outer s H E hr => ?_) pure_l_joins_hold
  have hu := hu_of hr
  have nd := sc_l_joins_hold.nd
  exact jb (js_set (i := 3) nd rfl (by first | exact Or.inl rfl | exact Or.inr rfl) (by exact jlc (own := [(("_law_part" : Str), 7)]) rfl nd (ji_list (jcall ((ok_l_parts T).mono (by decide)) hr (by rfl) T.g_l_parts T.F_l_parts.kp T.bi_l_parts .nil (fun _ => .nil) pass0 (fun _ _ _ _ => ZE.none) (ja (jv 1) (ja (jv 2) (ja0))))) (blkOk_by (own := [(("_law_part" : Str), 7)]) (N := [("_law_web" : Str), ("_law_houses" : Str), ("_law_lines" : Str), ("_law_names" : Str), ("_law_due" : Str), ("_law_told" : Str), ("_law_k" : Str), ("_law_part" : Str)]) (sc := defScope s_l_joins_hold) (by decide +kernel)) (gw_name (j := 7) (by decide)) (fun _ _ _ _ _ => (pg_name (i := 7) nd rfl (by first | exact Or.inl rfl | exact Or.inr rfl))) (fun _ _ _ _ _ => jts0) (fun _ _ _ _ _ => jix (oix hu) (jv 7) (jint) (fun _ _ => rfl))))
    (jb (by exact js_setLc (i := 4) (own := [(("_law_k" : Str), 6)]) rfl nd rfl rfl (sw_true rfl rfl rfl (by decide +kernel)) (ji_range1 (by rfl) T.b_range (ja (jop osub (jcallF clen (by rfl) T.b_len bb_len (ja (jv 3) (ja0))) (jint)) (ja0))) (blkOk_by (own := [(("_law_k" : Str), 6)]) (N := [("_law_web" : Str), ("_law_houses" : Str), ("_law_lines" : Str), ("_law_names" : Str), ("_law_due" : Str), ("_law_told" : Str), ("_law_k" : Str), ("_law_part" : Str)]) (sc := defScope s_l_joins_hold) (by decide +kernel)) (gw_name (j := 6) (by decide)) (fun _ _ _ _ _ => (pg_name (i := 6) nd rfl (by first | exact Or.inl rfl | exact Or.inr rfl))) (fun _ _ _ _ _ => jts0) (fun _ _ _ _ _ => jtup (ja (jix (oix hu) (jv 3) (jv 6) (fun _ _ => rfl)) (ja (jix (oix hu) (jv 3) (jop oadd (jv 6) (jint)) (fun _ _ => rfl)) (ja0)))))
    (jb (js_set (i := 5) nd rfl (by first | exact Or.inl rfl | exact Or.inr rfl) (jcall ((ok_least_joins T).mono (by decide)) hr (by rfl) T.g_least_joins T.F_least_joins.kp T.bi_least_joins .nil (fun _ => .nil) pass0 (fun _ _ _ _ => ZE.none) (ja (jv 0) (ja0))))
    (jb (js_if (PW.pt (jwor (jtcmp (one_ hr.units) (jcall ((ok_l_plain T).mono (by decide)) hr (by rfl) T.g_l_plain T.F_l_plain.kp T.bi_l_plain .nil (fun _ => .nil) pass0 (fun _ _ _ _ => ZE.none) (ja (jv 5) (ja0))) (jcall ((ok_l_plain T).mono (by decide)) hr (by rfl) T.g_l_plain T.F_l_plain.kp T.bi_l_plain .nil (fun _ => .nil) pass0 (fun _ _ _ _ => ZE.none) (ja (jv 4) (ja0))) (nomark _)) (pw_or1 (jtcmp oisnot (jcall ((ok_is_joins T).mono (by decide)) hr (by rfl) T.g_is_joins T.F_is_joins.kp T.bi_is_joins .nil (fun _ => .nil) pass0 (fun _ _ _ _ => ZE.none) (ja (jv 0) (ja (jv 5) (ja0)))) (jbl) (nomark _)))))
    (jb1 (js_ret (jbl)))
    (jb0))
    (jb (js_for PassesOwn.never rfl (ji_range1 (by rfl) T.b_range (ja (jcallF clen (by rfl) T.b_len bb_len (ja (jv 4) (ja0))) (ja0))) (kg (i := 6) nd rfl (by first | exact Or.inl rfl | exact Or.inr rfl))
    (jb1 (js_if (PW.pt (jwor (jtcmp oisnot (jcall ((ok_is_joins T).mono (by decide)) hr (by rfl) T.g_is_joins T.F_is_joins.kp T.bi_is_joins .nil (fun _ => .nil) pass0 (fun _ _ _ _ => ZE.none) (ja (jv 0) (ja (jop oadd (jsl (jv 5) jo0 (jo (jv 6))) (jsl (jv 5) (jo (jop oadd (jv 6) (jint))) jo0)) (ja0)))) (jbl) (nomark _)) (pw_or1 (jtcmp oisnot (jcall ((ok_is_joins T).mono (by decide)) hr (by rfl) T.g_is_joins T.F_is_joins.kp T.bi_is_joins .nil (fun _ => .nil) pass0 (fun _ _ _ _ => ZE.none) (ja (jv 0) (ja (jop oadd (jv 5) (jlst (ja (jix (oix hu) (jv 5) (jv 6) (fun _ _ => rfl)) (ja0)))) (ja0)))) (jbl) (nomark _)))))
    (jb1 (js_ret (jbl)))
    (jb0))))
    (jb (js_if (jtcmp ole (jop oadd (jcallF clen (by rfl) T.b_len bb_len (ja (jv 2) (ja0))) (jcallF clen (by rfl) T.b_len bb_len (ja (jv 4) (ja0)))) (jint) (nomark _))
    (jb (js_if (jtcmp (one_ hr.units) (jcall ((ok_l_joined_up T).mono (by decide)) hr (by rfl) T.g_l_joined_up T.F_l_joined_up.kp T.bi_l_joined_up .nil (fun _ => .nil) pass0 (fun _ _ _ _ => ZE.none) (ja (jv 0) (ja (jv 5) (ja0)))) (jcallF (cmin rfl hr.units65) (by rfl) T.b_min bb_min (ja (jint) (ja (jcallF clen (by rfl) T.b_len bb_len (ja (jv 1) (ja0))) (ja0)))) (nomark _))
    (jb1 (js_ret (jbl)))
    (jb0))
    (jb1 (js_if (PW.pt (jwand (jtcmp ogt (jcallF clen (by rfl) T.b_len bb_len (ja (jv 4) (ja0))) (jint) (nomark _)) (pw_and1 (jtcmp (one_ hr.units) (jcall ((ok_l_joined_up T).mono (by decide)) hr (by rfl) T.g_l_joined_up T.F_l_joined_up.kp T.bi_l_joined_up .nil (fun _ => .nil) pass0 (fun _ _ _ _ => ZE.none) (ja (jv 0) (ja (jsl (jv 5) (jo (jint)) jo0) (ja0)))) (jint) (nomark _)))))
    (jb1 (js_ret (jbl)))
    (jb0))))
    (jb0))
    (jb (js_expr (jbm PySem.F.plainAttrs_list PySem.F.slot_list_append PySem.F.type_list_append mappend (jv 5) (ja (jtup (ja (jstr) (ja (jstr) (ja0)))) (ja0))))
    (jb1 (js_ret (jcmp (oeq hr.units) (jcall ((ok_l_plain T).mono (by decide)) hr (by rfl) T.g_l_plain T.F_l_plain.kp T.bi_l_plain .nil (fun _ => .nil) pass0 (fun _ _ _ _ => ZE.none) (ja (jcall ((ok_least_joins T).mono (by decide)) hr (by rfl) T.g_least_joins T.F_least_joins.kp T.bi_least_joins .nil (fun _ => .nil) pass0 (fun _ _ _ _ => ZE.none) (ja (jv 0) (ja0))) (ja0))) (jcall ((ok_l_plain T).mono (by decide)) hr (by rfl) T.g_l_plain T.F_l_plain.kp T.bi_l_plain .nil (fun _ => .nil) pass0 (fun _ _ _ _ => ZE.none) (ja (jv 4) (ja0))) (nomark _))))))))))
theorem sc_law : FnScope ["_law_script", "_law_draws", "_law_houses", "_law_lines", "_law_web", "_law_k", "_law_joins", "_law_at", "_law_to", "_law_name", "_law_more", "_law_wider", "_law_line"] ["_law_script"] (defScope s_law) := ⟨rfl, rfl, rfl, by decide +kernel, rfl, by decide +kernel, by decide +kernel⟩
theorem ok_law (T : Txt P K mg fa fd) : FnOk P w K mg base CX0 12 (fa 38) (fd 38) ["_law_script"] (lowSp K sp_law) := by
  refine fnok (t := t_law sp_l_store sp_l_drawn_web sp_Web_init sp_l_joins_hold sp_l_take sp_l_passed sp_l_any_joins sp_l_unused sp_Web_with_line sp_l_parts sp_l_judged sp_Web_houses sp_Web_lines sp_is_joins sp_l_bent_joins sp_Web_without_line sp_l_without) T.F_law sc_law len_law (fun cdv A outer s H E hr => ?_) pure_law
  have hu := hu_of hr
  have nd := sc_law.nd
  exact jb (js_set (i := 1) nd rfl (by first | exact Or.inl rfl | exact Or.inr rfl) (jcall ((ok_l_store T).mono (by decide)) hr (by rfl) T.g_l_store T.F_l_store.kp T.bi_l_store .nil (fun _ => .nil) pass0 (fun _ _ _ _ => ZE.none) (ja (jv 0) (ja0))))
    (jb (js_asg (jcall ((ok_l_drawn_web T).mono (by decide)) hr (by rfl) T.g_l_drawn_web T.F_l_drawn_web.kp T.bi_l_drawn_web .nil (fun _ => .nil) pass0 (fun _ _ _ _ => ZE.none) (ja (jv 1) (ja (jint) (ja0)))) (kgtup rfl (kgs (kg (i := 2) nd rfl (by first | exact Or.inl rfl | exact Or.inr rfl)) (kgs (kg (i := 3) nd rfl (by first | exact Or.inl rfl | exact Or.inr rfl)) (kg0)))))
    (jb (js_if (jtcmp (oeq hr.units) (jcall ((ok_l_take T).mono (by decide)) hr (by rfl) T.g_l_take T.F_l_take.kp T.bi_l_take .nil (fun _ => .nil) pass0 (fun _ _ _ _ => ZE.none) (ja (jv 1) (ja (jint) (ja0)))) (jint) (nomark _))
    (jb1 (js_set (i := 3) nd rfl (by first | exact Or.inl rfl | exact Or.inr rfl) (jsl (jv 3) jo0 (jo (jop ofdiv (jcallF clen (by rfl) T.b_len bb_len (ja (jv 2) (ja0))) (jint))))))
    (jb0))
    (jb (js_set (i := 4) nd rfl (by first | exact Or.inl rfl | exact Or.inr rfl) (jmake T.mk_Web ((ok_Web_init T).mono (by decide)) hr (by rfl) T.g_Web (T.bd_Web_init_3).choose_spec.2 (T.bd_Web_init_3).choose_spec.1 (fun _ => .nil) pass_none (fun _ _ _ _ => ZE.none) (ja (jcallT (clist rfl) (by rfl) T.b_list bb_list (ja (jv 2) (ja0))) (ja (jcall ((ok_l_passed T).mono (by decide)) hr (by rfl) T.g_l_passed T.F_l_passed.kp T.bi_l_passed .nil (fun _ => .nil) pass0 (fun _ _ _ _ => ZE.none) (ja (jv 1) (ja (jv 3) (ja0)))) (ja0)))))
    (jb (js_if (jtnot (jtval (jcall ((ok_l_joins_hold T).mono (by decide)) hr (by rfl) T.g_l_joins_hold T.F_l_joins_hold.kp T.bi_l_joins_hold .nil (fun _ => .nil) pass0 (fun _ _ _ _ => ZE.none) (ja (jv 4) (ja (jv 2) (ja (jv 3) (ja0)))))))
    (jb1 (js_ret (jbl)))
    (jb0))
    (jb (js_for PassesOwn.never rfl (ji_range1 (by rfl) T.b_range (ja (jint) (ja0))) (kg (i := 5) nd rfl (by first | exact Or.inl rfl | exact Or.inr rfl))
    (jb (js_set (i := 6) nd rfl (by first | exact Or.inl rfl | exact Or.inr rfl) (jcall ((ok_l_any_joins T).mono (by decide)) hr (by rfl) T.g_l_any_joins T.F_l_any_joins.kp T.bi_l_any_joins .nil (fun _ => .nil) pass0 (fun _ _ _ _ => ZE.none) (ja (jv 1) (ja (jcall ((ok_l_parts T).mono (by decide)) hr (by rfl) T.g_l_parts T.F_l_parts.kp T.bi_l_parts .nil (fun _ => .nil) pass0 (fun _ _ _ _ => ZE.none) (ja (jv 2) (ja (jv 3) (ja0)))) (ja0)))))
    (jb (js_if (PW.pt (jwor (jtcmp oisnot (jcall ((ok_is_joins T).mono (by decide)) hr (by rfl) T.g_is_joins T.F_is_joins.kp T.bi_is_joins .nil (fun _ => .nil) pass0 (fun _ _ _ _ => ZE.none) (ja (jv 4) (ja (jcallT (clist rfl) (by rfl) T.b_list bb_list (ja (jv 6) (ja0))) (ja0)))) (jbl) (nomark _)) (pw_or1 (jtnot (jtval (jcall ((ok_l_judged T).mono (by decide)) hr (by rfl) T.g_l_judged T.F_l_judged.kp T.bi_l_judged .nil (fun _ => .nil) pass0 (fun _ _ _ _ => ZE.none) (ja (jv 4) (ja (jv 2) (ja (jv 3) (ja (jv 6) (ja0)))))))))))
    (jb1 (js_ret (jbl)))
    (jb0))
    (jb1 (js_if (jtnot (jtval (jcall ((ok_l_judged T).mono (by decide)) hr (by rfl) T.g_l_judged T.F_l_judged.kp T.bi_l_judged .nil (fun _ => .nil) pass0 (fun _ _ _ _ => ZE.none) (ja (jv 4) (ja (jv 2) (ja (jv 3) (ja (jcall ((ok_l_bent_joins T).mono (by decide)) hr (by rfl) T.g_l_bent_joins T.F_l_bent_joins.kp T.bi_l_bent_joins .nil (fun _ => .nil) pass0 (fun _ _ _ _ => ZE.none) (ja (jv 1) (ja (jv 2) (ja (jv 6) (ja0))))) (ja0))))))))
    (jb1 (js_ret (jbl)))
    (jb0))))))
    (jb (js_if (PW.pt (jwand (jtcmp ogt (jcallF clen (by rfl) T.b_len bb_len (ja (jv 2) (ja0))) (jint) (nomark _)) (pw_and1 (jtcmp ole (jcallF clen (by rfl) T.b_len bb_len (ja (jv 3) (ja0))) (jint) (nomark _)))))
    (jb (js_set (i := 7) nd rfl (by first | exact Or.inl rfl | exact Or.inr rfl) (jcall ((ok_l_take T).mono (by decide)) hr (by rfl) T.g_l_take T.F_l_take.kp T.bi_l_take .nil (fun _ => .nil) pass0 (fun _ _ _ _ => ZE.none) (ja (jv 1) (ja (jcallF clen (by rfl) T.b_len bb_len (ja (jv 2) (ja0))) (ja0)))))
    (jb (js_set (i := 8) nd rfl (by first | exact Or.inl rfl | exact Or.inr rfl) (jop omod (jcallT cint (by rfl) T.b_int bb_int (ja (jop oadd (jop oadd (jv 7) (jint)) (jcall ((ok_l_take T).mono (by decide)) hr (by rfl) T.g_l_take T.F_l_take.kp T.bi_l_take .nil (fun _ => .nil) pass0 (fun _ _ _ _ => ZE.none) (ja (jv 1) (ja (jop osub (jcallF clen (by rfl) T.b_len bb_len (ja (jv 2) (ja0))) (jint)) (ja0))))) (ja0))) (jcallF clen (by rfl) T.b_len bb_len (ja (jv 2) (ja0)))))
    (jb (js_set (i := 9) nd rfl (by first | exact Or.inl rfl | exact Or.inr rfl) (jcall ((ok_l_unused T).mono (by decide)) hr (by rfl) T.g_l_unused T.F_l_unused.kp T.bi_l_unused .nil (fun _ => .nil) pass0 (fun _ _ _ _ => ZE.none) (ja (jv 3) (ja0))))
    (jb (js_set (i := 10) nd rfl (by first | exact Or.inl rfl | exact Or.inr rfl) (jop oadd (jv 3) (jlst (ja (jtup (ja (jv 9) (ja (jcallF (cmin rfl hr.units65) (by rfl) T.b_min bb_min (ja (jix (oix hu) (jv 2) (jv 7) (fun _ _ => rfl)) (ja (jix (oix hu) (jv 2) (jv 8) (fun _ _ => rfl)) (ja0)))) (ja (jcallF (cmax rfl hr.units65) (by rfl) T.b_max bb_max (ja (jix (oix hu) (jv 2) (jv 7) (fun _ _ => rfl)) (ja (jix (oix hu) (jv 2) (jv 8) (fun _ _ => rfl)) (ja0)))) (ja0))))) (ja0)))))
    (jb (js_set (i := 11) nd rfl (by first | exact Or.inl rfl | exact Or.inr rfl) (jmeth (jv 4) T.c_Web T.me_Web_with_line ((ok_Web_with_line T).mono (by decide)) hr T.bi_Web_with_line .nil (fun _ => .nil) pass_none (fun _ _ _ _ => ZE.none) (ja (jv 9) (ja (jix (oix hu) (jv 2) (jv 7) (fun _ _ => rfl)) (ja (jix (oix hu) (jv 2) (jv 8) (fun _ _ => rfl)) (ja0))))))
    (jb (js_if (jtnot (jtval (jcall ((ok_l_joins_hold T).mono (by decide)) hr (by rfl) T.g_l_joins_hold T.F_l_joins_hold.kp T.bi_l_joins_hold .nil (fun _ => .nil) pass0 (fun _ _ _ _ => ZE.none) (ja (jv 11) (ja (jv 2) (ja (jv 10) (ja0)))))))
    (jb1 (js_ret (jbl)))
    (jb0))
    (jb1 (js_for PassesOwn.never rfl (ji_list (jsl (jv 3) jo0 (jo (jint)))) (kg (i := 12) nd rfl (by first | exact Or.inl rfl | exact Or.inr rfl))
    (jb1 (js_if (jtnot (jtval (jcall ((ok_l_joins_hold T).mono (by decide)) hr (by rfl) T.g_l_joins_hold T.F_l_joins_hold.kp T.bi_l_joins_hold .nil (fun _ => .nil) pass0 (fun _ _ _ _ => ZE.none) (ja (jmeth (jv 11) T.c_Web T.me_Web_without_line ((ok_Web_without_line T).mono (by decide)) hr T.bi_Web_without_line .nil (fun _ => .nil) pass_none (fun _ _ _ _ => ZE.none) (ja (jix (oix hu) (jv 12) (jint) (fun _ _ => rfl)) (ja0))) (ja (jv 2) (ja (jcall ((ok_l_without T).mono (by decide)) hr (by rfl) T.g_l_without T.F_l_without.kp T.bi_l_without .nil (fun _ => .nil) pass0 (fun _ _ _ _ => ZE.none) (ja (jv 10) (ja (jix (oix hu) (jv 12) (jint) (fun _ _ => rfl)) (ja0)))) (ja0)))))))
    (jb1 (js_ret (jbl)))
    (jb0)))))))))))
    (jb0))
    (jb (js_if (PW.pt (jwor (jtcmp (one_ hr.units) (jprop T.c_Web T.pr_Web_houses ((ok_Web_houses T).mono (by decide)) hr T.bi_Web_houses pass0 (fun _ _ _ _ => ZE.none) (jv 4) rfl) (jcallF (csorted rfl hr.units65) (by rfl) T.b_sorted bb_sorted (ja (jv 2) (ja0))) (nomark _)) (pw_or1 (jtcmp (one_ hr.units) (jprop T.c_Web T.pr_Web_lines ((ok_Web_lines T).mono (by decide)) hr T.bi_Web_lines pass0 (fun _ _ _ _ => ZE.none) (jv 4) rfl) (jcallF (csorted rfl hr.units65) (by rfl) T.b_sorted bb_sorted (ja (jv 3) (ja0))) (nomark _)))))
    (jb1 (js_ret (jbl)))
    (jb0))
    (jb1 (js_ret (jcall ((ok_l_joins_hold T).mono (by decide)) hr (by rfl) T.g_l_joins_hold T.F_l_joins_hold.kp T.bi_l_joins_hold .nil (fun _ => .nil) pass0 (fun _ _ _ _ => ZE.none) (ja (jv 4) (ja (jv 2) (ja (jv 3) (ja0))))))))))))))
end

end L
open PySem PySem.W PySem.Calls PyProof.Rows L2 J
set_option maxHeartbeats 4000000 in
theorem PySem.Challenge.cw_keptjoined_k58_fewest_joins_holds : PySem.Challenge.rw_keptjoined_k58_fewest_joins.Holds := by
  w_on; o_law
  refine HandSHeadRun.head_any (r := OpenLaw.row PySem.Challenge.rw_keptjoined_k58_fewest_joins) (q := view (OpenLaw.row PySem.Challenge.rw_keptjoined_k58_fewest_joins).prog [54]) (H := L.hdK) (ob := L.hdO) (M := 40000) (loose := L.hdL) (d := HandSHeadRun.topDef (OpenLaw.row PySem.Challenge.rw_keptjoined_k58_fewest_joins).prog 54) (kwd := []) L.hdO_eq
    (by kernel_rfl) (fun s => by kernel_rfl) L.hdRun (by kernel_rfl) (by kernel_rfl) (by kernel_rfl) (by rfl) (by first | assumption | decide +kernel) (by decide +kernel) ⟨rfl, rfl, rfl, rfl, rfl, by decide +kernel⟩ ?hw ?hc
  case hw => w_witness2
  case hc =>
    refine L2.walk_ofE (l := PySem.Challenge.rw_keptjoined_k58_fewest_joins) (n := 63) (k := 12) (x := "_law_script") (CX := L2.CX0) rfl (by decide) (by kernel_rfl) ⟨rfl, by decide, by decide⟩ ?F (fun _ _ _ _ z => z)
    intro w mg fa h Y G hmg0
    obtain ⟨K, KX, c, ce, cs, cp⟩ := Y
    have hmg : mg ("law" : PySem.Str) = some (.ref fa) := by
      have e : (HandSHeadRun.topDef (OpenLaw.row PySem.Challenge.rw_keptjoined_k58_fewest_joins).prog 54).name = ("law" : PySem.Str) := by kernel_rfl
      rw [← e]
      exact hmg0
    obtain ⟨fdv, T⟩ := L.hdTxt KX G c ce cs cp
    have e := hmg.symm.trans T.g_law
    cases e
    have b := FunD.bindsA (ps := ["_law_script"]) T.F_law fun _ _ _ _ _ _ us hl => match us, hl with | [_], _ => rfl
    exact ⟨K, fdv 38, J.lowSp K L.sp_law, KX, fun s v => b s [v] rfl, fun H a ns hl _ hS => J.low_start L.start_law H a ns hl hS, fun base _ _ => L.ok_law T⟩
